import PyProof.Rows.All
import Wide.All
import OpenK.AllK
import Wide.FinOn
import PySem.Challenge.RW_pb0494_01
set_option Elab.async false
set_option linter.unusedVariables false
set_option linter.unusedSimpArgs false

section
open PySem PySem.W PyProof.Rows
set_option maxRecDepth 100000
namespace Mine
/-- the def or class at a place of a body -/
noncomputable def nthS : List Stmt → Nat → Stmt
  | [], _ => .Pass ⟨0, 0, 0, 0⟩
  | s :: _, 0 => s
  | _ :: l, k + 1 => nthS l k
noncomputable def fdBody : Stmt → List Stmt
  | .FunctionDef _ _ b _ _ _ _ _ _ _ => b
  | .ClassDef _ _ _ b _ _ _ _ _ _ _ => b
  | _ => []
noncomputable def fdArgs : Stmt → Arguments
  | .FunctionDef _ a _ _ _ _ _ _ _ _ => a
  | _ => ⟨[], [], none, [], [], none, []⟩
noncomputable def fdScope : Stmt → Scope
  | .FunctionDef _ _ _ _ _ _ s _ _ _ => s
  | .ClassDef _ _ _ _ _ _ s _ _ _ _ => s
  | _ => { kind := .function, names := [], isGenerator := false, isCoroutine := false }
noncomputable def dAt (i : Nat) : Stmt := nthS Challenge.pw_pb0494_01.main.body i
noncomputable def mAt (i j : Nat) : Stmt := nthS (fdBody (dAt i)) j
noncomputable abbrev kE (P : Params) (x : String) (t : Nat) (v : Value) : DictEntry := { hash := PyData.keyHash P (.ofString x), key := .str (.ofString x) t, val := v }
/-- the heap that the top leaves, as far as the proof asks -/
noncomputable def HpK (P : Params) : Frag :=
  (nat_lit 2, { cls := .none, data := .dict (List.toArray (kE P "type.__subclasses__.Exception.0" 232 (.int 46 0) :: kE P "type.__subclasses__.Exception.n" 233 (.int 1 0) :: [])) 2 }) ::
  (nat_lit 3, { cls := .type "dict", data := .dict (List.toArray (kE P "__name__" 165 (.str (.ofString "law_pb0494_01") 1024) :: kE P "__doc__" 166 (.none) :: kE P "__package__" 167 (.none) :: kE P "__loader__" 168 (.builtin "__main__.__loader__#opaque") :: kE P "__spec__" 169 (.none) :: kE P "__annotations__" 170 (.ref 6) :: kE P "__builtins__" 171 (.ref 4) :: kE P "__file__" 173 (.str (.ofString "/claim/cut.py") 172) :: kE P "__cached__" 174 (.none) :: kE P "_wall" 193 (.ref 21) :: kE P "PaperError" 235 (.ref 46) :: kE P "TreeFault" 251 (.ref 59) :: kE P "Decimal" 367 (.ref 155) :: kE P "sign_text" 374 (.ref 166) :: kE P "MOST_HOPS" 378 (.int 30 377) :: kE P "Name" 407 (.ref 183) :: kE P "String" 438 (.ref 205) :: kE P "Stream" 469 (.ref 226) :: kE P "Reference" 507 (.ref 254) :: kE P "kind_of" 514 (.ref 265) :: kE P "told_plain" 522 (.ref 272) :: kE P "told" 528 (.ref 277) :: kE P "told_objects" 529 (.ref 277) :: kE P "Lookup" 581 (.ref 309) :: kE P "Shelf" 645 (.ref 363) :: kE P "INHERITED" 652 (.ref 366) :: kE P "Page" 683 (.ref 383) :: kE P "Spot" 720 (.ref 404) :: kE P "home_of" 732 (.ref 415) :: kE P "is_node" 741 (.ref 422) :: kE P "kids_of" 750 (.ref 429) :: kE P "met" 764 (.ref 436) :: kE P "spots" 779 (.ref 443) :: kE P "fields_of" 789 (.ref 450) :: kE P "page_spots" 795 (.ref 455) :: kE P "pages" 801 (.ref 460) :: kE P "MOST_DEEP" 805 (.int 40 804) :: kE P "key_of" 813 (.ref 467) :: kE P "node_of" 822 (.ref 474) :: kE P "row_of" 832 (.ref 481) :: kE P "node_pairs" 838 (.ref 486) :: kE P "node_limits" 848 (.ref 493) :: kE P "longer_way" 857 (.ref 500) :: kE P "tree_pairs" 863 (.ref 505) :: kE P "first_at_least" 874 (.ref 512) :: kE P "kid_for" 887 (.ref 519) :: kE P "tree_find" 893 (.ref 525) :: kE P "VIEWS" 920 (.ref 526) :: kE P "Target" 953 (.ref 543) :: kE P "is_view_number" 961 (.ref 554) :: kE P "target_of" 967 (.ref 559) :: kE P "names_root" 975 (.ref 566) :: kE P "old_names" 983 (.ref 573) :: kE P "named_value" 992 (.ref 580) :: kE P "destination_of" 1001 (.ref 587) :: kE P "page_index_of" 1007 (.ref 592) :: kE P "named" 1013 (.ref 597) :: kE P "broken_names" 1023 (.ref 604) :: kE P "_law_pen" 1034 (.ref 611) :: kE P "_law_draw" 1043 (.ref 618) :: kE P "_law_shelf" 1049 (.ref 623) :: kE P "_law_number" 1056 (.ref 630) :: kE P "_law_row" 1062 (.ref 635) :: kE P "_law_due" 1068 (.ref 640) :: kE P "_law_heard" 1074 (.ref 645) :: kE P "_law_value" 1084 (.ref 652) :: kE P "_law_names" 1097 (.ref 659) :: kE P "law" 1103 (.ref 664) :: [])) 68 }) ::
  (nat_lit 15, { cls := .type "tuple", data := .seq #[] }) ::
  (nat_lit 17, { cls := .type "tuple", data := .seq #[.str (.ofString "k") 190] }) ::
  (nat_lit 18, { cls := .type "tuple", data := .seq #[] }) ::
  (nat_lit 20, { cls := .type "code", data := .fields #[.str (.ofString "_wall") 187, .str (.ofString "_wall") 188, .str (.ofString "/claim/cut.py") 189, .int 1 0, .int 1 0, .int 0 0, .int 0 0, .int 3 0, .ref 15, .bool true, .int 181 0, .ref 16, .none, .ref 17, .ref 18, .ref 19, .int 191 0, .int 1 0, .str (.ofString "/claim/cut.py") 192] }) ::
  (nat_lit 21, { cls := .type "function", data := .func (fnOf (.ofString "_wall") (.ofString "_wall") (fdArgs (dAt 0)) (fdBody (dAt 0)) (fdScope (dAt 0)) (.none) (.none) .none (.str (.ofString "__main__") 164) none (.ref 20) .none) }) ::
  (nat_lit 22, { cls := .type "tuple", data := .seq #[.type "Exception"] }) ::
  (nat_lit 29, { cls := .type "tuple", data := .seq #[.int (-1) 209] }) ::
  (nat_lit 30, { cls := .type "tuple", data := .seq #[] }) ::
  (nat_lit 32, { cls := .type "tuple", data := .seq #[.str (.ofString "self") 213, .str (.ofString "what") 214, .str (.ofString "at") 215] }) ::
  (nat_lit 33, { cls := .type "tuple", data := .seq #[] }) ::
  (nat_lit 35, { cls := .type "code", data := .fields #[.str (.ofString "__init__") 210, .str (.ofString "PaperError.__init__") 211, .str (.ofString "/claim/cut.py") 212, .int 7 0, .int 3 0, .int 0 0, .int 0 0, .int 3 0, .ref 30, .bool true, .int 181 0, .ref 31, .none, .ref 32, .ref 33, .ref 34, .int 216 0, .int 7 0, .str (.ofString "/claim/cut.py") 217] }) ::
  (nat_lit 36, { cls := .type "function", data := .func (fnOf (.ofString "__init__") (.ofString "PaperError.__init__") (fdArgs (mAt 2 0)) (fdBody (mAt 2 0)) (fdScope (mAt 2 0)) (.ref 29) (.none) .none (.str (.ofString "paperhold.errors") 194) none (.ref 35) .none) }) ::
  (nat_lit 37, { cls := .type "tuple", data := .seq #[] }) ::
  (nat_lit 39, { cls := .type "tuple", data := .seq #[.str (.ofString "self") 222] }) ::
  (nat_lit 40, { cls := .type "tuple", data := .seq #[] }) ::
  (nat_lit 42, { cls := .type "code", data := .fields #[.str (.ofString "told") 219, .str (.ofString "PaperError.told") 220, .str (.ofString "/claim/cut.py") 221, .int 12 0, .int 1 0, .int 0 0, .int 0 0, .int 3 0, .ref 37, .bool true, .int 181 0, .ref 38, .none, .ref 39, .ref 40, .ref 41, .int 223 0, .int 12 0, .str (.ofString "/claim/cut.py") 224] }) ::
  (nat_lit 43, { cls := .type "function", data := .func (fnOf (.ofString "told") (.ofString "PaperError.told") (fdArgs (mAt 2 1)) (fdBody (mAt 2 1)) (fdScope (mAt 2 1)) (.none) (.none) .none (.str (.ofString "paperhold.errors") 194) none (.ref 42) .none) }) ::
  (nat_lit 44, { cls := .type "tuple", data := .seq #[.str (.ofString "at") 226, .str (.ofString "what") 227] }) ::
  (nat_lit 45, { cls := .type "dict", data := .dict (List.toArray (kE P "__module__" 203 (.str (.ofString "paperhold.errors") 194) :: kE P "__firstlineno__" 207 (.int 5 206) :: kE P "__init__" 218 (.ref 36) :: kE P "told" 225 (.ref 43) :: kE P "__static_attributes__" 228 (.ref 44) :: kE P "__weakref__" 230 (.ref 47) :: kE P "__doc__" 231 (.none) :: [])) 3 }) ::
  (nat_lit 46, { cls := .type "type", data := .cls { name := .ofString "PaperError", bases := [.type "Exception"], mro := [.ref 46, .type "Exception", .type "BaseException", .type "object"], ns := 45, qualname := .ofString "PaperError", subclasses := [.ref 59] }, slots := #[some (.ref 22), none, some (.str (.ofString "PaperError") 196), some (.str (.ofString "PaperError") 204), some (.builtin "Exception.__new__"), some (.bool true)] }) ::
  (nat_lit 47, { cls := .type "getset_descriptor", data := .fields #[.str (.ofString "__weakref__") 229, .ref 46, .builtin "ExceptionGroup.__weakref__", .none] }) ::
  (nat_lit 50, { cls := .type "tuple", data := .seq #[.ref 46] }) ::
  (nat_lit 57, { cls := .type "tuple", data := .seq #[] }) ::
  (nat_lit 58, { cls := .type "dict", data := .dict (List.toArray (kE P "__module__" 243 (.str (.ofString "paperhold.errors") 194) :: kE P "__firstlineno__" 247 (.int 14 246) :: kE P "__static_attributes__" 248 (.ref 57) :: kE P "__doc__" 249 (.none) :: [])) 2 }) ::
  (nat_lit 59, { cls := .type "type", data := .cls { name := .ofString "TreeFault", bases := [.ref 46], mro := [.ref 59, .ref 46, .type "Exception", .type "BaseException", .type "object"], ns := 58, qualname := .ofString "TreeFault" }, slots := #[some (.ref 50), none, some (.str (.ofString "TreeFault") 236), some (.str (.ofString "TreeFault") 244), some (.builtin "Exception.__new__"), some (.bool true)] }) ::
  (nat_lit 69, { cls := .type "tuple", data := .seq #[] }) ::
  (nat_lit 71, { cls := .type "tuple", data := .seq #[.str (.ofString "self") 269, .str (.ofString "top") 270, .str (.ofString "places") 271] }) ::
  (nat_lit 72, { cls := .type "tuple", data := .seq #[] }) ::
  (nat_lit 74, { cls := .type "code", data := .fields #[.str (.ofString "__init__") 266, .str (.ofString "Decimal.__init__") 267, .str (.ofString "/claim/cut.py") 268, .int 19 0, .int 3 0, .int 0 0, .int 0 0, .int 3 0, .ref 69, .bool true, .int 181 0, .ref 70, .none, .ref 71, .ref 72, .ref 73, .int 272 0, .int 19 0, .str (.ofString "/claim/cut.py") 273] }) ::
  (nat_lit 75, { cls := .type "function", data := .func (fnOf (.ofString "__init__") (.ofString "Decimal.__init__") (fdArgs (mAt 5 0)) (fdBody (mAt 5 0)) (fdScope (mAt 5 0)) (.none) (.none) .none (.str (.ofString "paperhold.decimals") 252) none (.ref 74) .none) }) ::
  (nat_lit 76, { cls := .type "tuple", data := .seq #[] }) ::
  (nat_lit 78, { cls := .type "tuple", data := .seq #[.str (.ofString "self") 278, .str (.ofString "other") 279] }) ::
  (nat_lit 79, { cls := .type "tuple", data := .seq #[] }) ::
  (nat_lit 81, { cls := .type "code", data := .fields #[.str (.ofString "plus") 275, .str (.ofString "Decimal.plus") 276, .str (.ofString "/claim/cut.py") 277, .int 26 0, .int 2 0, .int 0 0, .int 0 0, .int 3 0, .ref 76, .bool true, .int 181 0, .ref 77, .none, .ref 78, .ref 79, .ref 80, .int 280 0, .int 26 0, .str (.ofString "/claim/cut.py") 281] }) ::
  (nat_lit 82, { cls := .type "function", data := .func (fnOf (.ofString "plus") (.ofString "Decimal.plus") (fdArgs (mAt 5 1)) (fdBody (mAt 5 1)) (fdScope (mAt 5 1)) (.none) (.none) .none (.str (.ofString "paperhold.decimals") 252) none (.ref 81) .none) }) ::
  (nat_lit 83, { cls := .type "tuple", data := .seq #[] }) ::
  (nat_lit 85, { cls := .type "tuple", data := .seq #[.str (.ofString "self") 286, .str (.ofString "other") 287] }) ::
  (nat_lit 86, { cls := .type "tuple", data := .seq #[] }) ::
  (nat_lit 88, { cls := .type "code", data := .fields #[.str (.ofString "minus") 283, .str (.ofString "Decimal.minus") 284, .str (.ofString "/claim/cut.py") 285, .int 29 0, .int 2 0, .int 0 0, .int 0 0, .int 3 0, .ref 83, .bool true, .int 181 0, .ref 84, .none, .ref 85, .ref 86, .ref 87, .int 288 0, .int 29 0, .str (.ofString "/claim/cut.py") 289] }) ::
  (nat_lit 89, { cls := .type "function", data := .func (fnOf (.ofString "minus") (.ofString "Decimal.minus") (fdArgs (mAt 5 2)) (fdBody (mAt 5 2)) (fdScope (mAt 5 2)) (.none) (.none) .none (.str (.ofString "paperhold.decimals") 252) none (.ref 88) .none) }) ::
  (nat_lit 90, { cls := .type "tuple", data := .seq #[] }) ::
  (nat_lit 92, { cls := .type "tuple", data := .seq #[.str (.ofString "self") 294, .str (.ofString "other") 295] }) ::
  (nat_lit 93, { cls := .type "tuple", data := .seq #[] }) ::
  (nat_lit 95, { cls := .type "code", data := .fields #[.str (.ofString "times") 291, .str (.ofString "Decimal.times") 292, .str (.ofString "/claim/cut.py") 293, .int 32 0, .int 2 0, .int 0 0, .int 0 0, .int 3 0, .ref 90, .bool true, .int 181 0, .ref 91, .none, .ref 92, .ref 93, .ref 94, .int 296 0, .int 32 0, .str (.ofString "/claim/cut.py") 297] }) ::
  (nat_lit 96, { cls := .type "function", data := .func (fnOf (.ofString "times") (.ofString "Decimal.times") (fdArgs (mAt 5 3)) (fdBody (mAt 5 3)) (fdScope (mAt 5 3)) (.none) (.none) .none (.str (.ofString "paperhold.decimals") 252) none (.ref 95) .none) }) ::
  (nat_lit 97, { cls := .type "tuple", data := .seq #[] }) ::
  (nat_lit 99, { cls := .type "tuple", data := .seq #[.str (.ofString "self") 302] }) ::
  (nat_lit 100, { cls := .type "tuple", data := .seq #[] }) ::
  (nat_lit 102, { cls := .type "code", data := .fields #[.str (.ofString "negated") 299, .str (.ofString "Decimal.negated") 300, .str (.ofString "/claim/cut.py") 301, .int 35 0, .int 1 0, .int 0 0, .int 0 0, .int 3 0, .ref 97, .bool true, .int 181 0, .ref 98, .none, .ref 99, .ref 100, .ref 101, .int 303 0, .int 35 0, .str (.ofString "/claim/cut.py") 304] }) ::
  (nat_lit 103, { cls := .type "function", data := .func (fnOf (.ofString "negated") (.ofString "Decimal.negated") (fdArgs (mAt 5 4)) (fdBody (mAt 5 4)) (fdScope (mAt 5 4)) (.none) (.none) .none (.str (.ofString "paperhold.decimals") 252) none (.ref 102) .none) }) ::
  (nat_lit 104, { cls := .type "tuple", data := .seq #[] }) ::
  (nat_lit 106, { cls := .type "tuple", data := .seq #[.str (.ofString "self") 309, .str (.ofString "other") 310] }) ::
  (nat_lit 107, { cls := .type "tuple", data := .seq #[] }) ::
  (nat_lit 109, { cls := .type "code", data := .fields #[.str (.ofString "compared") 306, .str (.ofString "Decimal.compared") 307, .str (.ofString "/claim/cut.py") 308, .int 38 0, .int 2 0, .int 0 0, .int 0 0, .int 3 0, .ref 104, .bool true, .int 181 0, .ref 105, .none, .ref 106, .ref 107, .ref 108, .int 311 0, .int 38 0, .str (.ofString "/claim/cut.py") 312] }) ::
  (nat_lit 110, { cls := .type "function", data := .func (fnOf (.ofString "compared") (.ofString "Decimal.compared") (fdArgs (mAt 5 5)) (fdBody (mAt 5 5)) (fdScope (mAt 5 5)) (.none) (.none) .none (.str (.ofString "paperhold.decimals") 252) none (.ref 109) .none) }) ::
  (nat_lit 111, { cls := .type "tuple", data := .seq #[] }) ::
  (nat_lit 113, { cls := .type "tuple", data := .seq #[.str (.ofString "self") 317] }) ::
  (nat_lit 114, { cls := .type "tuple", data := .seq #[] }) ::
  (nat_lit 116, { cls := .type "code", data := .fields #[.str (.ofString "is_whole") 314, .str (.ofString "Decimal.is_whole") 315, .str (.ofString "/claim/cut.py") 316, .int 41 0, .int 1 0, .int 0 0, .int 0 0, .int 3 0, .ref 111, .bool true, .int 181 0, .ref 112, .none, .ref 113, .ref 114, .ref 115, .int 318 0, .int 41 0, .str (.ofString "/claim/cut.py") 319] }) ::
  (nat_lit 117, { cls := .type "function", data := .func (fnOf (.ofString "is_whole") (.ofString "Decimal.is_whole") (fdArgs (mAt 5 6)) (fdBody (mAt 5 6)) (fdScope (mAt 5 6)) (.none) (.none) .none (.str (.ofString "paperhold.decimals") 252) none (.ref 116) .none) }) ::
  (nat_lit 118, { cls := .type "tuple", data := .seq #[] }) ::
  (nat_lit 120, { cls := .type "tuple", data := .seq #[.str (.ofString "self") 324] }) ::
  (nat_lit 121, { cls := .type "tuple", data := .seq #[] }) ::
  (nat_lit 123, { cls := .type "code", data := .fields #[.str (.ofString "floor") 321, .str (.ofString "Decimal.floor") 322, .str (.ofString "/claim/cut.py") 323, .int 44 0, .int 1 0, .int 0 0, .int 0 0, .int 3 0, .ref 118, .bool true, .int 181 0, .ref 119, .none, .ref 120, .ref 121, .ref 122, .int 325 0, .int 44 0, .str (.ofString "/claim/cut.py") 326] }) ::
  (nat_lit 124, { cls := .type "function", data := .func (fnOf (.ofString "floor") (.ofString "Decimal.floor") (fdArgs (mAt 5 7)) (fdBody (mAt 5 7)) (fdScope (mAt 5 7)) (.none) (.none) .none (.str (.ofString "paperhold.decimals") 252) none (.ref 123) .none) }) ::
  (nat_lit 125, { cls := .type "tuple", data := .seq #[] }) ::
  (nat_lit 127, { cls := .type "tuple", data := .seq #[.str (.ofString "self") 331, .str (.ofString "places") 332] }) ::
  (nat_lit 128, { cls := .type "tuple", data := .seq #[] }) ::
  (nat_lit 130, { cls := .type "code", data := .fields #[.str (.ofString "rounded") 328, .str (.ofString "Decimal.rounded") 329, .str (.ofString "/claim/cut.py") 330, .int 47 0, .int 2 0, .int 0 0, .int 0 0, .int 3 0, .ref 125, .bool true, .int 181 0, .ref 126, .none, .ref 127, .ref 128, .ref 129, .int 333 0, .int 47 0, .str (.ofString "/claim/cut.py") 334] }) ::
  (nat_lit 131, { cls := .type "function", data := .func (fnOf (.ofString "rounded") (.ofString "Decimal.rounded") (fdArgs (mAt 5 8)) (fdBody (mAt 5 8)) (fdScope (mAt 5 8)) (.none) (.none) .none (.str (.ofString "paperhold.decimals") 252) none (.ref 130) .none) }) ::
  (nat_lit 132, { cls := .type "tuple", data := .seq #[] }) ::
  (nat_lit 134, { cls := .type "tuple", data := .seq #[.str (.ofString "self") 339] }) ::
  (nat_lit 135, { cls := .type "tuple", data := .seq #[] }) ::
  (nat_lit 137, { cls := .type "code", data := .fields #[.str (.ofString "told") 336, .str (.ofString "Decimal.told") 337, .str (.ofString "/claim/cut.py") 338, .int 50 0, .int 1 0, .int 0 0, .int 0 0, .int 3 0, .ref 132, .bool true, .int 181 0, .ref 133, .none, .ref 134, .ref 135, .ref 136, .int 340 0, .int 50 0, .str (.ofString "/claim/cut.py") 341] }) ::
  (nat_lit 138, { cls := .type "function", data := .func (fnOf (.ofString "told") (.ofString "Decimal.told") (fdArgs (mAt 5 9)) (fdBody (mAt 5 9)) (fdScope (mAt 5 9)) (.none) (.none) .none (.str (.ofString "paperhold.decimals") 252) none (.ref 137) .none) }) ::
  (nat_lit 139, { cls := .type "tuple", data := .seq #[] }) ::
  (nat_lit 141, { cls := .type "tuple", data := .seq #[.str (.ofString "self") 346, .str (.ofString "numerals") 347] }) ::
  (nat_lit 142, { cls := .type "tuple", data := .seq #[] }) ::
  (nat_lit 144, { cls := .type "code", data := .fields #[.str (.ofString "text") 343, .str (.ofString "Decimal.text") 344, .str (.ofString "/claim/cut.py") 345, .int 53 0, .int 1 0, .int 0 0, .int 0 0, .int 3 0, .ref 139, .bool true, .int 181 0, .ref 140, .none, .ref 141, .ref 142, .ref 143, .int 348 0, .int 53 0, .str (.ofString "/claim/cut.py") 349] }) ::
  (nat_lit 145, { cls := .type "function", data := .func (fnOf (.ofString "text") (.ofString "Decimal.text") (fdArgs (mAt 5 10)) (fdBody (mAt 5 10)) (fdScope (mAt 5 10)) (.none) (.none) .none (.str (.ofString "paperhold.decimals") 252) none (.ref 144) .none) }) ::
  (nat_lit 146, { cls := .type "tuple", data := .seq #[] }) ::
  (nat_lit 148, { cls := .type "tuple", data := .seq #[.str (.ofString "self") 354] }) ::
  (nat_lit 149, { cls := .type "tuple", data := .seq #[] }) ::
  (nat_lit 151, { cls := .type "code", data := .fields #[.str (.ofString "least_text") 351, .str (.ofString "Decimal.least_text") 352, .str (.ofString "/claim/cut.py") 353, .int 60 0, .int 1 0, .int 0 0, .int 0 0, .int 3 0, .ref 146, .bool true, .int 181 0, .ref 147, .none, .ref 148, .ref 149, .ref 150, .int 355 0, .int 60 0, .str (.ofString "/claim/cut.py") 356] }) ::
  (nat_lit 152, { cls := .type "function", data := .func (fnOf (.ofString "least_text") (.ofString "Decimal.least_text") (fdArgs (mAt 5 11)) (fdBody (mAt 5 11)) (fdScope (mAt 5 11)) (.none) (.none) .none (.str (.ofString "paperhold.decimals") 252) none (.ref 151) .none) }) ::
  (nat_lit 153, { cls := .type "tuple", data := .seq #[.str (.ofString "places") 358, .str (.ofString "top") 359] }) ::
  (nat_lit 154, { cls := .type "dict", data := .dict (List.toArray (kE P "__module__" 261 (.str (.ofString "paperhold.decimals") 252) :: kE P "__firstlineno__" 265 (.int 17 264) :: kE P "__init__" 274 (.ref 75) :: kE P "plus" 282 (.ref 82) :: kE P "minus" 290 (.ref 89) :: kE P "times" 298 (.ref 96) :: kE P "negated" 305 (.ref 103) :: kE P "compared" 313 (.ref 110) :: kE P "is_whole" 320 (.ref 117) :: kE P "floor" 327 (.ref 124) :: kE P "rounded" 335 (.ref 131) :: kE P "told" 342 (.ref 138) :: kE P "text" 350 (.ref 145) :: kE P "least_text" 357 (.ref 152) :: kE P "__static_attributes__" 360 (.ref 153) :: kE P "__dict__" 362 (.ref 156) :: kE P "__weakref__" 364 (.ref 157) :: kE P "__doc__" 365 (.none) :: [])) 4 }) ::
  (nat_lit 155, { cls := .type "type", data := .cls { name := .ofString "Decimal", bases := [.type "object"], mro := [.ref 155, .type "object"], ns := 154, qualname := .ofString "Decimal" }, slots := #[none, none, some (.str (.ofString "Decimal") 254), some (.str (.ofString "Decimal") 262), some (.builtin "object.__new__"), some (.bool true)] }) ::
  (nat_lit 156, { cls := .type "getset_descriptor", data := .fields #[.str (.ofString "__dict__") 361, .ref 155, .builtin "function.__dict__", .builtin "function.__dict__#set"] }) ::
  (nat_lit 157, { cls := .type "getset_descriptor", data := .fields #[.str (.ofString "__weakref__") 363, .ref 155, .builtin "ExceptionGroup.__weakref__", .none] }) ::
  (nat_lit 160, { cls := .type "tuple", data := .seq #[] }) ::
  (nat_lit 162, { cls := .type "tuple", data := .seq #[.str (.ofString "number") 371] }) ::
  (nat_lit 163, { cls := .type "tuple", data := .seq #[] }) ::
  (nat_lit 165, { cls := .type "code", data := .fields #[.str (.ofString "sign_text") 368, .str (.ofString "sign_text") 369, .str (.ofString "/claim/cut.py") 370, .int 62 0, .int 1 0, .int 0 0, .int 0 0, .int 3 0, .ref 160, .bool true, .int 181 0, .ref 161, .none, .ref 162, .ref 163, .ref 164, .int 372 0, .int 62 0, .str (.ofString "/claim/cut.py") 373] }) ::
  (nat_lit 166, { cls := .type "function", data := .func (fnOf (.ofString "sign_text") (.ofString "sign_text") (fdArgs (dAt 6)) (fdBody (dAt 6)) (fdScope (dAt 6)) (.none) (.none) .none (.str (.ofString "paperhold.decimals") 252) none (.ref 165) .none) }) ::
  (nat_lit 174, { cls := .type "tuple", data := .seq #[] }) ::
  (nat_lit 176, { cls := .type "tuple", data := .seq #[.str (.ofString "self") 394, .str (.ofString "text") 395] }) ::
  (nat_lit 177, { cls := .type "tuple", data := .seq #[] }) ::
  (nat_lit 179, { cls := .type "code", data := .fields #[.str (.ofString "__init__") 391, .str (.ofString "Name.__init__") 392, .str (.ofString "/claim/cut.py") 393, .int 68 0, .int 2 0, .int 0 0, .int 0 0, .int 3 0, .ref 174, .bool true, .int 181 0, .ref 175, .none, .ref 176, .ref 177, .ref 178, .int 396 0, .int 68 0, .str (.ofString "/claim/cut.py") 397] }) ::
  (nat_lit 180, { cls := .type "function", data := .func (fnOf (.ofString "__init__") (.ofString "Name.__init__") (fdArgs (mAt 9 0)) (fdBody (mAt 9 0)) (fdScope (mAt 9 0)) (.none) (.none) .none (.str (.ofString "paperhold.objects") 375) none (.ref 179) .none) }) ::
  (nat_lit 181, { cls := .type "tuple", data := .seq #[.str (.ofString "text") 399] }) ::
  (nat_lit 182, { cls := .type "dict", data := .dict (List.toArray (kE P "__module__" 386 (.str (.ofString "paperhold.objects") 375) :: kE P "__firstlineno__" 390 (.int 66 389) :: kE P "__init__" 398 (.ref 180) :: kE P "__static_attributes__" 400 (.ref 181) :: kE P "__dict__" 402 (.ref 184) :: kE P "__weakref__" 404 (.ref 185) :: kE P "__doc__" 405 (.none) :: [])) 4 }) ::
  (nat_lit 183, { cls := .type "type", data := .cls { name := .ofString "Name", bases := [.type "object"], mro := [.ref 183, .type "object"], ns := 182, qualname := .ofString "Name" }, slots := #[none, none, some (.str (.ofString "Name") 379), some (.str (.ofString "Name") 387), some (.builtin "object.__new__"), some (.bool true)] }) ::
  (nat_lit 184, { cls := .type "getset_descriptor", data := .fields #[.str (.ofString "__dict__") 401, .ref 183, .builtin "function.__dict__", .builtin "function.__dict__#set"] }) ::
  (nat_lit 185, { cls := .type "getset_descriptor", data := .fields #[.str (.ofString "__weakref__") 403, .ref 183, .builtin "ExceptionGroup.__weakref__", .none] }) ::
  (nat_lit 195, { cls := .type "tuple", data := .seq #[.bool false] }) ::
  (nat_lit 196, { cls := .type "tuple", data := .seq #[] }) ::
  (nat_lit 198, { cls := .type "tuple", data := .seq #[.str (.ofString "self") 423, .str (.ofString "octets") 424, .str (.ofString "is_hex") 425] }) ::
  (nat_lit 199, { cls := .type "tuple", data := .seq #[] }) ::
  (nat_lit 201, { cls := .type "code", data := .fields #[.str (.ofString "__init__") 420, .str (.ofString "String.__init__") 421, .str (.ofString "/claim/cut.py") 422, .int 72 0, .int 3 0, .int 0 0, .int 0 0, .int 3 0, .ref 196, .bool true, .int 181 0, .ref 197, .none, .ref 198, .ref 199, .ref 200, .int 426 0, .int 72 0, .str (.ofString "/claim/cut.py") 427] }) ::
  (nat_lit 202, { cls := .type "function", data := .func (fnOf (.ofString "__init__") (.ofString "String.__init__") (fdArgs (mAt 10 0)) (fdBody (mAt 10 0)) (fdScope (mAt 10 0)) (.ref 195) (.none) .none (.str (.ofString "paperhold.objects") 375) none (.ref 201) .none) }) ::
  (nat_lit 203, { cls := .type "tuple", data := .seq #[.str (.ofString "is_hex") 429, .str (.ofString "octets") 430] }) ::
  (nat_lit 204, { cls := .type "dict", data := .dict (List.toArray (kE P "__module__" 415 (.str (.ofString "paperhold.objects") 375) :: kE P "__firstlineno__" 419 (.int 70 418) :: kE P "__init__" 428 (.ref 202) :: kE P "__static_attributes__" 431 (.ref 203) :: kE P "__dict__" 433 (.ref 206) :: kE P "__weakref__" 435 (.ref 207) :: kE P "__doc__" 436 (.none) :: [])) 4 }) ::
  (nat_lit 205, { cls := .type "type", data := .cls { name := .ofString "String", bases := [.type "object"], mro := [.ref 205, .type "object"], ns := 204, qualname := .ofString "String" }, slots := #[none, none, some (.str (.ofString "String") 408), some (.str (.ofString "String") 416), some (.builtin "object.__new__"), some (.bool true)] }) ::
  (nat_lit 206, { cls := .type "getset_descriptor", data := .fields #[.str (.ofString "__dict__") 432, .ref 205, .builtin "function.__dict__", .builtin "function.__dict__#set"] }) ::
  (nat_lit 207, { cls := .type "getset_descriptor", data := .fields #[.str (.ofString "__weakref__") 434, .ref 205, .builtin "ExceptionGroup.__weakref__", .none] }) ::
  (nat_lit 217, { cls := .type "tuple", data := .seq #[] }) ::
  (nat_lit 219, { cls := .type "tuple", data := .seq #[.str (.ofString "self") 454, .str (.ofString "head") 455, .str (.ofString "octets") 456] }) ::
  (nat_lit 220, { cls := .type "tuple", data := .seq #[] }) ::
  (nat_lit 222, { cls := .type "code", data := .fields #[.str (.ofString "__init__") 451, .str (.ofString "Stream.__init__") 452, .str (.ofString "/claim/cut.py") 453, .int 77 0, .int 3 0, .int 0 0, .int 0 0, .int 3 0, .ref 217, .bool true, .int 181 0, .ref 218, .none, .ref 219, .ref 220, .ref 221, .int 457 0, .int 77 0, .str (.ofString "/claim/cut.py") 458] }) ::
  (nat_lit 223, { cls := .type "function", data := .func (fnOf (.ofString "__init__") (.ofString "Stream.__init__") (fdArgs (mAt 11 0)) (fdBody (mAt 11 0)) (fdScope (mAt 11 0)) (.none) (.none) .none (.str (.ofString "paperhold.objects") 375) none (.ref 222) .none) }) ::
  (nat_lit 224, { cls := .type "tuple", data := .seq #[.str (.ofString "head") 460, .str (.ofString "octets") 461] }) ::
  (nat_lit 225, { cls := .type "dict", data := .dict (List.toArray (kE P "__module__" 446 (.str (.ofString "paperhold.objects") 375) :: kE P "__firstlineno__" 450 (.int 75 449) :: kE P "__init__" 459 (.ref 223) :: kE P "__static_attributes__" 462 (.ref 224) :: kE P "__dict__" 464 (.ref 227) :: kE P "__weakref__" 466 (.ref 228) :: kE P "__doc__" 467 (.none) :: [])) 4 }) ::
  (nat_lit 226, { cls := .type "type", data := .cls { name := .ofString "Stream", bases := [.type "object"], mro := [.ref 226, .type "object"], ns := 225, qualname := .ofString "Stream" }, slots := #[none, none, some (.str (.ofString "Stream") 439), some (.str (.ofString "Stream") 447), some (.builtin "object.__new__"), some (.bool true)] }) ::
  (nat_lit 227, { cls := .type "getset_descriptor", data := .fields #[.str (.ofString "__dict__") 463, .ref 226, .builtin "function.__dict__", .builtin "function.__dict__#set"] }) ::
  (nat_lit 228, { cls := .type "getset_descriptor", data := .fields #[.str (.ofString "__weakref__") 465, .ref 226, .builtin "ExceptionGroup.__weakref__", .none] }) ::
  (nat_lit 238, { cls := .type "tuple", data := .seq #[] }) ::
  (nat_lit 240, { cls := .type "tuple", data := .seq #[.str (.ofString "self") 485, .str (.ofString "number") 486, .str (.ofString "generation") 487] }) ::
  (nat_lit 241, { cls := .type "tuple", data := .seq #[] }) ::
  (nat_lit 243, { cls := .type "code", data := .fields #[.str (.ofString "__init__") 482, .str (.ofString "Reference.__init__") 483, .str (.ofString "/claim/cut.py") 484, .int 82 0, .int 3 0, .int 0 0, .int 0 0, .int 3 0, .ref 238, .bool true, .int 181 0, .ref 239, .none, .ref 240, .ref 241, .ref 242, .int 488 0, .int 82 0, .str (.ofString "/claim/cut.py") 489] }) ::
  (nat_lit 244, { cls := .type "function", data := .func (fnOf (.ofString "__init__") (.ofString "Reference.__init__") (fdArgs (mAt 12 0)) (fdBody (mAt 12 0)) (fdScope (mAt 12 0)) (.none) (.none) .none (.str (.ofString "paperhold.objects") 375) none (.ref 243) .none) }) ::
  (nat_lit 245, { cls := .type "tuple", data := .seq #[] }) ::
  (nat_lit 247, { cls := .type "tuple", data := .seq #[.str (.ofString "self") 494] }) ::
  (nat_lit 248, { cls := .type "tuple", data := .seq #[] }) ::
  (nat_lit 250, { cls := .type "code", data := .fields #[.str (.ofString "pair") 491, .str (.ofString "Reference.pair") 492, .str (.ofString "/claim/cut.py") 493, .int 86 0, .int 1 0, .int 0 0, .int 0 0, .int 3 0, .ref 245, .bool true, .int 181 0, .ref 246, .none, .ref 247, .ref 248, .ref 249, .int 495 0, .int 86 0, .str (.ofString "/claim/cut.py") 496] }) ::
  (nat_lit 251, { cls := .type "function", data := .func (fnOf (.ofString "pair") (.ofString "Reference.pair") (fdArgs (mAt 12 1)) (fdBody (mAt 12 1)) (fdScope (mAt 12 1)) (.none) (.none) .none (.str (.ofString "paperhold.objects") 375) none (.ref 250) .none) }) ::
  (nat_lit 252, { cls := .type "tuple", data := .seq #[.str (.ofString "generation") 498, .str (.ofString "number") 499] }) ::
  (nat_lit 253, { cls := .type "dict", data := .dict (List.toArray (kE P "__module__" 477 (.str (.ofString "paperhold.objects") 375) :: kE P "__firstlineno__" 481 (.int 80 480) :: kE P "__init__" 490 (.ref 244) :: kE P "pair" 497 (.ref 251) :: kE P "__static_attributes__" 500 (.ref 252) :: kE P "__dict__" 502 (.ref 255) :: kE P "__weakref__" 504 (.ref 256) :: kE P "__doc__" 505 (.none) :: [])) 4 }) ::
  (nat_lit 254, { cls := .type "type", data := .cls { name := .ofString "Reference", bases := [.type "object"], mro := [.ref 254, .type "object"], ns := 253, qualname := .ofString "Reference" }, slots := #[none, none, some (.str (.ofString "Reference") 470), some (.str (.ofString "Reference") 478), some (.builtin "object.__new__"), some (.bool true)] }) ::
  (nat_lit 255, { cls := .type "getset_descriptor", data := .fields #[.str (.ofString "__dict__") 501, .ref 254, .builtin "function.__dict__", .builtin "function.__dict__#set"] }) ::
  (nat_lit 256, { cls := .type "getset_descriptor", data := .fields #[.str (.ofString "__weakref__") 503, .ref 254, .builtin "ExceptionGroup.__weakref__", .none] }) ::
  (nat_lit 259, { cls := .type "tuple", data := .seq #[] }) ::
  (nat_lit 261, { cls := .type "tuple", data := .seq #[.str (.ofString "value") 511] }) ::
  (nat_lit 262, { cls := .type "tuple", data := .seq #[] }) ::
  (nat_lit 264, { cls := .type "code", data := .fields #[.str (.ofString "kind_of") 508, .str (.ofString "kind_of") 509, .str (.ofString "/claim/cut.py") 510, .int 88 0, .int 1 0, .int 0 0, .int 0 0, .int 3 0, .ref 259, .bool true, .int 181 0, .ref 260, .none, .ref 261, .ref 262, .ref 263, .int 512 0, .int 88 0, .str (.ofString "/claim/cut.py") 513] }) ::
  (nat_lit 265, { cls := .type "function", data := .func (fnOf (.ofString "kind_of") (.ofString "kind_of") (fdArgs (dAt 13)) (fdBody (dAt 13)) (fdScope (dAt 13)) (.none) (.none) .none (.str (.ofString "paperhold.objects") 375) none (.ref 264) .none) }) ::
  (nat_lit 266, { cls := .type "tuple", data := .seq #[] }) ::
  (nat_lit 268, { cls := .type "tuple", data := .seq #[.str (.ofString "kind") 518, .str (.ofString "value") 519] }) ::
  (nat_lit 269, { cls := .type "tuple", data := .seq #[] }) ::
  (nat_lit 271, { cls := .type "code", data := .fields #[.str (.ofString "told_plain") 515, .str (.ofString "told_plain") 516, .str (.ofString "/claim/cut.py") 517, .int 110 0, .int 2 0, .int 0 0, .int 0 0, .int 3 0, .ref 266, .bool true, .int 181 0, .ref 267, .none, .ref 268, .ref 269, .ref 270, .int 520 0, .int 110 0, .str (.ofString "/claim/cut.py") 521] }) ::
  (nat_lit 272, { cls := .type "function", data := .func (fnOf (.ofString "told_plain") (.ofString "told_plain") (fdArgs (dAt 14)) (fdBody (dAt 14)) (fdScope (dAt 14)) (.none) (.none) .none (.str (.ofString "paperhold.objects") 375) none (.ref 271) .none) }) ::
  (nat_lit 273, { cls := .type "tuple", data := .seq #[] }) ::
  (nat_lit 276, { cls := .type "code", data := .fields #[.str (.ofString "told") 523, .str (.ofString "told") 524, .str (.ofString "/claim/cut.py") 525, .int 124 0, .int 1 0, .int 0 0, .int 0 0, .int 3 0, .ref 273, .bool true, .int 181 0, .ref 274, .none, .none, .none, .ref 275, .int 526 0, .int 124 0, .str (.ofString "/claim/cut.py") 527] }) ::
  (nat_lit 277, { cls := .type "function", data := .func (fnOf (.ofString "told") (.ofString "told") (fdArgs (dAt 15)) (fdBody (dAt 15)) (fdScope (dAt 15)) (.none) (.none) .none (.str (.ofString "paperhold.objects") 375) none (.ref 276) .none) }) ::
  (nat_lit 285, { cls := .type "tuple", data := .seq #[.none, .none] }) ::
  (nat_lit 286, { cls := .type "tuple", data := .seq #[] }) ::
  (nat_lit 288, { cls := .type "tuple", data := .seq #[.str (.ofString "self") 545, .str (.ofString "table") 546, .str (.ofString "trailer") 547] }) ::
  (nat_lit 289, { cls := .type "tuple", data := .seq #[] }) ::
  (nat_lit 291, { cls := .type "code", data := .fields #[.str (.ofString "__init__") 542, .str (.ofString "Lookup.__init__") 543, .str (.ofString "/claim/cut.py") 544, .int 136 0, .int 3 0, .int 0 0, .int 0 0, .int 3 0, .ref 286, .bool true, .int 181 0, .ref 287, .none, .ref 288, .ref 289, .ref 290, .int 548 0, .int 136 0, .str (.ofString "/claim/cut.py") 549] }) ::
  (nat_lit 292, { cls := .type "function", data := .func (fnOf (.ofString "__init__") (.ofString "Lookup.__init__") (fdArgs (mAt 17 0)) (fdBody (mAt 17 0)) (fdScope (mAt 17 0)) (.ref 285) (.none) .none (.str (.ofString "paperhold.objects") 375) none (.ref 291) .none) }) ::
  (nat_lit 293, { cls := .type "tuple", data := .seq #[] }) ::
  (nat_lit 295, { cls := .type "tuple", data := .seq #[.str (.ofString "self") 554, .str (.ofString "value") 555, .str (.ofString "here") 556, .str (.ofString "hop") 557, .str (.ofString "generation") 558, .str (.ofString "found") 559] }) ::
  (nat_lit 296, { cls := .type "tuple", data := .seq #[] }) ::
  (nat_lit 298, { cls := .type "code", data := .fields #[.str (.ofString "fetch") 551, .str (.ofString "Lookup.fetch") 552, .str (.ofString "/claim/cut.py") 553, .int 140 0, .int 2 0, .int 0 0, .int 0 0, .int 3 0, .ref 293, .bool true, .int 181 0, .ref 294, .none, .ref 295, .ref 296, .ref 297, .int 560 0, .int 140 0, .str (.ofString "/claim/cut.py") 561] }) ::
  (nat_lit 299, { cls := .type "function", data := .func (fnOf (.ofString "fetch") (.ofString "Lookup.fetch") (fdArgs (mAt 17 1)) (fdBody (mAt 17 1)) (fdScope (mAt 17 1)) (.none) (.none) .none (.str (.ofString "paperhold.objects") 375) none (.ref 298) .none) }) ::
  (nat_lit 300, { cls := .type "tuple", data := .seq #[] }) ::
  (nat_lit 302, { cls := .type "tuple", data := .seq #[.str (.ofString "self") 566, .str (.ofString "head") 567, .str (.ofString "key") 568] }) ::
  (nat_lit 303, { cls := .type "tuple", data := .seq #[] }) ::
  (nat_lit 305, { cls := .type "code", data := .fields #[.str (.ofString "get") 563, .str (.ofString "Lookup.get") 564, .str (.ofString "/claim/cut.py") 565, .int 151 0, .int 3 0, .int 0 0, .int 0 0, .int 3 0, .ref 300, .bool true, .int 181 0, .ref 301, .none, .ref 302, .ref 303, .ref 304, .int 569 0, .int 151 0, .str (.ofString "/claim/cut.py") 570] }) ::
  (nat_lit 306, { cls := .type "function", data := .func (fnOf (.ofString "get") (.ofString "Lookup.get") (fdArgs (mAt 17 2)) (fdBody (mAt 17 2)) (fdScope (mAt 17 2)) (.none) (.none) .none (.str (.ofString "paperhold.objects") 375) none (.ref 305) .none) }) ::
  (nat_lit 307, { cls := .type "tuple", data := .seq #[.str (.ofString "table") 572, .str (.ofString "trailer") 573] }) ::
  (nat_lit 308, { cls := .type "dict", data := .dict (List.toArray (kE P "__module__" 537 (.str (.ofString "paperhold.objects") 375) :: kE P "__firstlineno__" 541 (.int 134 540) :: kE P "__init__" 550 (.ref 292) :: kE P "fetch" 562 (.ref 299) :: kE P "get" 571 (.ref 306) :: kE P "__static_attributes__" 574 (.ref 307) :: kE P "__dict__" 576 (.ref 310) :: kE P "__weakref__" 578 (.ref 311) :: kE P "__doc__" 579 (.none) :: [])) 4 }) ::
  (nat_lit 309, { cls := .type "type", data := .cls { name := .ofString "Lookup", bases := [.type "object"], mro := [.ref 309, .type "object"], ns := 308, qualname := .ofString "Lookup", subclasses := [.ref 363] }, slots := #[none, none, some (.str (.ofString "Lookup") 530), some (.str (.ofString "Lookup") 538), some (.builtin "object.__new__"), some (.bool true)] }) ::
  (nat_lit 310, { cls := .type "getset_descriptor", data := .fields #[.str (.ofString "__dict__") 575, .ref 309, .builtin "function.__dict__", .builtin "function.__dict__#set"] }) ::
  (nat_lit 311, { cls := .type "getset_descriptor", data := .fields #[.str (.ofString "__weakref__") 577, .ref 309, .builtin "ExceptionGroup.__weakref__", .none] }) ::
  (nat_lit 314, { cls := .type "tuple", data := .seq #[.ref 309] }) ::
  (nat_lit 321, { cls := .type "tuple", data := .seq #[] }) ::
  (nat_lit 323, { cls := .type "tuple", data := .seq #[.str (.ofString "self") 597, .str (.ofString "number") 598, .str (.ofString "generation") 599, .str (.ofString "value") 600] }) ::
  (nat_lit 324, { cls := .type "tuple", data := .seq #[] }) ::
  (nat_lit 326, { cls := .type "code", data := .fields #[.str (.ofString "put") 594, .str (.ofString "Shelf.put") 595, .str (.ofString "/claim/cut.py") 596, .int 155 0, .int 4 0, .int 0 0, .int 0 0, .int 3 0, .ref 321, .bool true, .int 181 0, .ref 322, .none, .ref 323, .ref 324, .ref 325, .int 601 0, .int 155 0, .str (.ofString "/claim/cut.py") 602] }) ::
  (nat_lit 327, { cls := .type "function", data := .func (fnOf (.ofString "put") (.ofString "Shelf.put") (fdArgs (mAt 18 0)) (fdBody (mAt 18 0)) (fdScope (mAt 18 0)) (.none) (.none) .none (.str (.ofString "paperhold.objects") 375) none (.ref 326) .none) }) ::
  (nat_lit 328, { cls := .type "tuple", data := .seq #[] }) ::
  (nat_lit 330, { cls := .type "tuple", data := .seq #[.str (.ofString "self") 607, .str (.ofString "value") 608, .str (.ofString "number") 609] }) ::
  (nat_lit 331, { cls := .type "tuple", data := .seq #[] }) ::
  (nat_lit 333, { cls := .type "code", data := .fields #[.str (.ofString "add") 604, .str (.ofString "Shelf.add") 605, .str (.ofString "/claim/cut.py") 606, .int 158 0, .int 2 0, .int 0 0, .int 0 0, .int 3 0, .ref 328, .bool true, .int 181 0, .ref 329, .none, .ref 330, .ref 331, .ref 332, .int 610 0, .int 158 0, .str (.ofString "/claim/cut.py") 611] }) ::
  (nat_lit 334, { cls := .type "function", data := .func (fnOf (.ofString "add") (.ofString "Shelf.add") (fdArgs (mAt 18 1)) (fdBody (mAt 18 1)) (fdScope (mAt 18 1)) (.none) (.none) .none (.str (.ofString "paperhold.objects") 375) none (.ref 333) .none) }) ::
  (nat_lit 335, { cls := .type "tuple", data := .seq #[] }) ::
  (nat_lit 337, { cls := .type "tuple", data := .seq #[.str (.ofString "self") 616, .str (.ofString "number") 617] }) ::
  (nat_lit 338, { cls := .type "tuple", data := .seq #[] }) ::
  (nat_lit 340, { cls := .type "code", data := .fields #[.str (.ofString "drop") 613, .str (.ofString "Shelf.drop") 614, .str (.ofString "/claim/cut.py") 615, .int 165 0, .int 2 0, .int 0 0, .int 0 0, .int 3 0, .ref 335, .bool true, .int 181 0, .ref 336, .none, .ref 337, .ref 338, .ref 339, .int 618 0, .int 165 0, .str (.ofString "/claim/cut.py") 619] }) ::
  (nat_lit 341, { cls := .type "function", data := .func (fnOf (.ofString "drop") (.ofString "Shelf.drop") (fdArgs (mAt 18 2)) (fdBody (mAt 18 2)) (fdScope (mAt 18 2)) (.none) (.none) .none (.str (.ofString "paperhold.objects") 375) none (.ref 340) .none) }) ::
  (nat_lit 342, { cls := .type "tuple", data := .seq #[] }) ::
  (nat_lit 344, { cls := .type "tuple", data := .seq #[.str (.ofString "self") 624] }) ::
  (nat_lit 345, { cls := .type "tuple", data := .seq #[] }) ::
  (nat_lit 347, { cls := .type "code", data := .fields #[.str (.ofString "numbers") 621, .str (.ofString "Shelf.numbers") 622, .str (.ofString "/claim/cut.py") 623, .int 168 0, .int 1 0, .int 0 0, .int 0 0, .int 3 0, .ref 342, .bool true, .int 181 0, .ref 343, .none, .ref 344, .ref 345, .ref 346, .int 625 0, .int 168 0, .str (.ofString "/claim/cut.py") 626] }) ::
  (nat_lit 348, { cls := .type "function", data := .func (fnOf (.ofString "numbers") (.ofString "Shelf.numbers") (fdArgs (mAt 18 3)) (fdBody (mAt 18 3)) (fdScope (mAt 18 3)) (.none) (.none) .none (.str (.ofString "paperhold.objects") 375) none (.ref 347) .none) }) ::
  (nat_lit 349, { cls := .type "tuple", data := .seq #[] }) ::
  (nat_lit 351, { cls := .type "tuple", data := .seq #[.str (.ofString "self") 631, .str (.ofString "found") 632] }) ::
  (nat_lit 352, { cls := .type "tuple", data := .seq #[] }) ::
  (nat_lit 354, { cls := .type "code", data := .fields #[.str (.ofString "root") 628, .str (.ofString "Shelf.root") 629, .str (.ofString "/claim/cut.py") 630, .int 171 0, .int 1 0, .int 0 0, .int 0 0, .int 3 0, .ref 349, .bool true, .int 181 0, .ref 350, .none, .ref 351, .ref 352, .ref 353, .int 633 0, .int 171 0, .str (.ofString "/claim/cut.py") 634] }) ::
  (nat_lit 355, { cls := .type "function", data := .func (fnOf (.ofString "root") (.ofString "Shelf.root") (fdArgs (mAt 18 4)) (fdBody (mAt 18 4)) (fdScope (mAt 18 4)) (.none) (.none) .none (.str (.ofString "paperhold.objects") 375) none (.ref 354) .none) }) ::
  (nat_lit 356, { cls := .type "tuple", data := .seq #[] }) ::
  (nat_lit 359, { cls := .type "code", data := .fields #[.str (.ofString "told") 636, .str (.ofString "Shelf.told") 637, .str (.ofString "/claim/cut.py") 638, .int 175 0, .int 1 0, .int 0 0, .int 0 0, .int 3 0, .ref 356, .bool true, .int 181 0, .ref 357, .none, .none, .none, .ref 358, .int 639 0, .int 175 0, .str (.ofString "/claim/cut.py") 640] }) ::
  (nat_lit 360, { cls := .type "function", data := .func (fnOf (.ofString "told") (.ofString "Shelf.told") (fdArgs (mAt 18 5)) (fdBody (mAt 18 5)) (fdScope (mAt 18 5)) (.none) (.none) .none (.str (.ofString "paperhold.objects") 375) none (.ref 359) .none) }) ::
  (nat_lit 361, { cls := .type "tuple", data := .seq #[] }) ::
  (nat_lit 362, { cls := .type "dict", data := .dict (List.toArray (kE P "__module__" 589 (.str (.ofString "paperhold.objects") 375) :: kE P "__firstlineno__" 593 (.int 153 592) :: kE P "put" 603 (.ref 327) :: kE P "add" 612 (.ref 334) :: kE P "drop" 620 (.ref 341) :: kE P "numbers" 627 (.ref 348) :: kE P "root" 635 (.ref 355) :: kE P "told" 641 (.ref 360) :: kE P "__static_attributes__" 642 (.ref 361) :: kE P "__doc__" 643 (.none) :: [])) 2 }) ::
  (nat_lit 363, { cls := .type "type", data := .cls { name := .ofString "Shelf", bases := [.ref 309], mro := [.ref 363, .ref 309, .type "object"], ns := 362, qualname := .ofString "Shelf" }, slots := #[some (.ref 314), none, some (.str (.ofString "Shelf") 582), some (.str (.ofString "Shelf") 590), some (.builtin "object.__new__"), some (.bool true)] }) ::
  (nat_lit 366, { cls := .type "tuple", data := .seq #[.str (.ofString "Resources") 648, .str (.ofString "MediaBox") 649, .str (.ofString "CropBox") 650, .str (.ofString "Rotate") 651] }) ::
  (nat_lit 374, { cls := .type "tuple", data := .seq #[] }) ::
  (nat_lit 376, { cls := .type "tuple", data := .seq #[.str (.ofString "self") 668, .str (.ofString "reference") 669, .str (.ofString "fields") 670] }) ::
  (nat_lit 377, { cls := .type "tuple", data := .seq #[] }) ::
  (nat_lit 379, { cls := .type "code", data := .fields #[.str (.ofString "__init__") 665, .str (.ofString "Page.__init__") 666, .str (.ofString "/claim/cut.py") 667, .int 182 0, .int 3 0, .int 0 0, .int 0 0, .int 3 0, .ref 374, .bool true, .int 181 0, .ref 375, .none, .ref 376, .ref 377, .ref 378, .int 671 0, .int 182 0, .str (.ofString "/claim/cut.py") 672] }) ::
  (nat_lit 380, { cls := .type "function", data := .func (fnOf (.ofString "__init__") (.ofString "Page.__init__") (fdArgs (mAt 21 0)) (fdBody (mAt 21 0)) (fdScope (mAt 21 0)) (.none) (.none) .none (.str (.ofString "paperhold.pagetree") 646) none (.ref 379) .none) }) ::
  (nat_lit 381, { cls := .type "tuple", data := .seq #[.str (.ofString "fields") 674, .str (.ofString "reference") 675] }) ::
  (nat_lit 382, { cls := .type "dict", data := .dict (List.toArray (kE P "__module__" 660 (.str (.ofString "paperhold.pagetree") 646) :: kE P "__firstlineno__" 664 (.int 180 663) :: kE P "__init__" 673 (.ref 380) :: kE P "__static_attributes__" 676 (.ref 381) :: kE P "__dict__" 678 (.ref 384) :: kE P "__weakref__" 680 (.ref 385) :: kE P "__doc__" 681 (.none) :: [])) 4 }) ::
  (nat_lit 383, { cls := .type "type", data := .cls { name := .ofString "Page", bases := [.type "object"], mro := [.ref 383, .type "object"], ns := 382, qualname := .ofString "Page" }, slots := #[none, none, some (.str (.ofString "Page") 653), some (.str (.ofString "Page") 661), some (.builtin "object.__new__"), some (.bool true)] }) ::
  (nat_lit 384, { cls := .type "getset_descriptor", data := .fields #[.str (.ofString "__dict__") 677, .ref 383, .builtin "function.__dict__", .builtin "function.__dict__#set"] }) ::
  (nat_lit 385, { cls := .type "getset_descriptor", data := .fields #[.str (.ofString "__weakref__") 679, .ref 383, .builtin "ExceptionGroup.__weakref__", .none] }) ::
  (nat_lit 395, { cls := .type "tuple", data := .seq #[] }) ::
  (nat_lit 397, { cls := .type "tuple", data := .seq #[.str (.ofString "self") 699, .str (.ofString "reference") 700, .str (.ofString "head") 701, .str (.ofString "above") 702, .str (.ofString "inherited") 703, .str (.ofString "is_page") 704] }) ::
  (nat_lit 398, { cls := .type "tuple", data := .seq #[] }) ::
  (nat_lit 400, { cls := .type "code", data := .fields #[.str (.ofString "__init__") 696, .str (.ofString "Spot.__init__") 697, .str (.ofString "/claim/cut.py") 698, .int 187 0, .int 6 0, .int 0 0, .int 0 0, .int 3 0, .ref 395, .bool true, .int 181 0, .ref 396, .none, .ref 397, .ref 398, .ref 399, .int 705 0, .int 187 0, .str (.ofString "/claim/cut.py") 706] }) ::
  (nat_lit 401, { cls := .type "function", data := .func (fnOf (.ofString "__init__") (.ofString "Spot.__init__") (fdArgs (mAt 22 0)) (fdBody (mAt 22 0)) (fdScope (mAt 22 0)) (.none) (.none) .none (.str (.ofString "paperhold.pagetree") 646) none (.ref 400) .none) }) ::
  (nat_lit 402, { cls := .type "tuple", data := .seq #[.str (.ofString "above") 708, .str (.ofString "head") 709, .str (.ofString "inherited") 710, .str (.ofString "is_page") 711, .str (.ofString "reference") 712] }) ::
  (nat_lit 403, { cls := .type "dict", data := .dict (List.toArray (kE P "__module__" 691 (.str (.ofString "paperhold.pagetree") 646) :: kE P "__firstlineno__" 695 (.int 185 694) :: kE P "__init__" 707 (.ref 401) :: kE P "__static_attributes__" 713 (.ref 402) :: kE P "__dict__" 715 (.ref 405) :: kE P "__weakref__" 717 (.ref 406) :: kE P "__doc__" 718 (.none) :: [])) 4 }) ::
  (nat_lit 404, { cls := .type "type", data := .cls { name := .ofString "Spot", bases := [.type "object"], mro := [.ref 404, .type "object"], ns := 403, qualname := .ofString "Spot" }, slots := #[none, none, some (.str (.ofString "Spot") 684), some (.str (.ofString "Spot") 692), some (.builtin "object.__new__"), some (.bool true)] }) ::
  (nat_lit 405, { cls := .type "getset_descriptor", data := .fields #[.str (.ofString "__dict__") 714, .ref 404, .builtin "function.__dict__", .builtin "function.__dict__#set"] }) ::
  (nat_lit 406, { cls := .type "getset_descriptor", data := .fields #[.str (.ofString "__weakref__") 716, .ref 404, .builtin "ExceptionGroup.__weakref__", .none] }) ::
  (nat_lit 409, { cls := .type "tuple", data := .seq #[] }) ::
  (nat_lit 411, { cls := .type "tuple", data := .seq #[.str (.ofString "shelf") 724, .str (.ofString "value") 725, .str (.ofString "here") 726, .str (.ofString "seen") 727, .str (.ofString "generation") 728, .str (.ofString "found") 729] }) ::
  (nat_lit 412, { cls := .type "tuple", data := .seq #[] }) ::
  (nat_lit 414, { cls := .type "code", data := .fields #[.str (.ofString "home_of") 721, .str (.ofString "home_of") 722, .str (.ofString "/claim/cut.py") 723, .int 193 0, .int 2 0, .int 0 0, .int 0 0, .int 3 0, .ref 409, .bool true, .int 181 0, .ref 410, .none, .ref 411, .ref 412, .ref 413, .int 730 0, .int 193 0, .str (.ofString "/claim/cut.py") 731] }) ::
  (nat_lit 415, { cls := .type "function", data := .func (fnOf (.ofString "home_of") (.ofString "home_of") (fdArgs (dAt 23)) (fdBody (dAt 23)) (fdScope (dAt 23)) (.none) (.none) .none (.str (.ofString "paperhold.pagetree") 646) none (.ref 414) .none) }) ::
  (nat_lit 416, { cls := .type "tuple", data := .seq #[] }) ::
  (nat_lit 418, { cls := .type "tuple", data := .seq #[.str (.ofString "shelf") 736, .str (.ofString "head") 737, .str (.ofString "kind") 738] }) ::
  (nat_lit 419, { cls := .type "tuple", data := .seq #[] }) ::
  (nat_lit 421, { cls := .type "code", data := .fields #[.str (.ofString "is_node") 733, .str (.ofString "is_node") 734, .str (.ofString "/claim/cut.py") 735, .int 205 0, .int 2 0, .int 0 0, .int 0 0, .int 3 0, .ref 416, .bool true, .int 181 0, .ref 417, .none, .ref 418, .ref 419, .ref 420, .int 739 0, .int 205 0, .str (.ofString "/claim/cut.py") 740] }) ::
  (nat_lit 422, { cls := .type "function", data := .func (fnOf (.ofString "is_node") (.ofString "is_node") (fdArgs (dAt 24)) (fdBody (dAt 24)) (fdScope (dAt 24)) (.none) (.none) .none (.str (.ofString "paperhold.pagetree") 646) none (.ref 421) .none) }) ::
  (nat_lit 423, { cls := .type "tuple", data := .seq #[] }) ::
  (nat_lit 425, { cls := .type "tuple", data := .seq #[.str (.ofString "shelf") 745, .str (.ofString "head") 746, .str (.ofString "kids") 747] }) ::
  (nat_lit 426, { cls := .type "tuple", data := .seq #[] }) ::
  (nat_lit 428, { cls := .type "code", data := .fields #[.str (.ofString "kids_of") 742, .str (.ofString "kids_of") 743, .str (.ofString "/claim/cut.py") 744, .int 210 0, .int 2 0, .int 0 0, .int 0 0, .int 3 0, .ref 423, .bool true, .int 181 0, .ref 424, .none, .ref 425, .ref 426, .ref 427, .int 748 0, .int 210 0, .str (.ofString "/claim/cut.py") 749] }) ::
  (nat_lit 429, { cls := .type "function", data := .func (fnOf (.ofString "kids_of") (.ofString "kids_of") (fdArgs (dAt 25)) (fdBody (dAt 25)) (fdScope (dAt 25)) (.none) (.none) .none (.str (.ofString "paperhold.pagetree") 646) none (.ref 428) .none) }) ::
  (nat_lit 430, { cls := .type "tuple", data := .seq #[] }) ::
  (nat_lit 432, { cls := .type "tuple", data := .seq #[.str (.ofString "shelf") 754, .str (.ofString "value") 755, .str (.ofString "above") 756, .str (.ofString "inherited") 757, .str (.ofString "reference") 758, .str (.ofString "head") 759, .str (.ofString "given") 760, .str (.ofString "key") 761] }) ::
  (nat_lit 433, { cls := .type "tuple", data := .seq #[] }) ::
  (nat_lit 435, { cls := .type "code", data := .fields #[.str (.ofString "met") 751, .str (.ofString "met") 752, .str (.ofString "/claim/cut.py") 753, .int 215 0, .int 4 0, .int 0 0, .int 0 0, .int 3 0, .ref 430, .bool true, .int 181 0, .ref 431, .none, .ref 432, .ref 433, .ref 434, .int 762 0, .int 215 0, .str (.ofString "/claim/cut.py") 763] }) ::
  (nat_lit 436, { cls := .type "function", data := .func (fnOf (.ofString "met") (.ofString "met") (fdArgs (dAt 26)) (fdBody (dAt 26)) (fdScope (dAt 26)) (.none) (.none) .none (.str (.ofString "paperhold.pagetree") 646) none (.ref 435) .none) }) ::
  (nat_lit 437, { cls := .type "tuple", data := .seq #[] }) ::
  (nat_lit 439, { cls := .type "tuple", data := .seq #[.str (.ofString "shelf") 768, .str (.ofString "found") 769, .str (.ofString "seen") 770, .str (.ofString "line") 771, .str (.ofString "value") 772, .str (.ofString "above") 773, .str (.ofString "inherited") 774, .str (.ofString "spot") 775, .str (.ofString "kid") 776] }) ::
  (nat_lit 440, { cls := .type "tuple", data := .seq #[] }) ::
  (nat_lit 442, { cls := .type "code", data := .fields #[.str (.ofString "spots") 765, .str (.ofString "spots") 766, .str (.ofString "/claim/cut.py") 767, .int 225 0, .int 1 0, .int 0 0, .int 0 0, .int 3 0, .ref 437, .bool true, .int 181 0, .ref 438, .none, .ref 439, .ref 440, .ref 441, .int 777 0, .int 225 0, .str (.ofString "/claim/cut.py") 778] }) ::
  (nat_lit 443, { cls := .type "function", data := .func (fnOf (.ofString "spots") (.ofString "spots") (fdArgs (dAt 27)) (fdBody (dAt 27)) (fdScope (dAt 27)) (.none) (.none) .none (.str (.ofString "paperhold.pagetree") 646) none (.ref 442) .none) }) ::
  (nat_lit 444, { cls := .type "tuple", data := .seq #[] }) ::
  (nat_lit 446, { cls := .type "tuple", data := .seq #[.str (.ofString "shelf") 783, .str (.ofString "spot") 784, .str (.ofString "found") 785, .str (.ofString "key") 786] }) ::
  (nat_lit 447, { cls := .type "tuple", data := .seq #[] }) ::
  (nat_lit 449, { cls := .type "code", data := .fields #[.str (.ofString "fields_of") 780, .str (.ofString "fields_of") 781, .str (.ofString "/claim/cut.py") 782, .int 240 0, .int 2 0, .int 0 0, .int 0 0, .int 3 0, .ref 444, .bool true, .int 181 0, .ref 445, .none, .ref 446, .ref 447, .ref 448, .int 787 0, .int 240 0, .str (.ofString "/claim/cut.py") 788] }) ::
  (nat_lit 450, { cls := .type "function", data := .func (fnOf (.ofString "fields_of") (.ofString "fields_of") (fdArgs (dAt 28)) (fdBody (dAt 28)) (fdScope (dAt 28)) (.none) (.none) .none (.str (.ofString "paperhold.pagetree") 646) none (.ref 449) .none) }) ::
  (nat_lit 451, { cls := .type "tuple", data := .seq #[] }) ::
  (nat_lit 454, { cls := .type "code", data := .fields #[.str (.ofString "page_spots") 790, .str (.ofString "page_spots") 791, .str (.ofString "/claim/cut.py") 792, .int 246 0, .int 1 0, .int 0 0, .int 0 0, .int 3 0, .ref 451, .bool true, .int 181 0, .ref 452, .none, .none, .none, .ref 453, .int 793 0, .int 246 0, .str (.ofString "/claim/cut.py") 794] }) ::
  (nat_lit 455, { cls := .type "function", data := .func (fnOf (.ofString "page_spots") (.ofString "page_spots") (fdArgs (dAt 29)) (fdBody (dAt 29)) (fdScope (dAt 29)) (.none) (.none) .none (.str (.ofString "paperhold.pagetree") 646) none (.ref 454) .none) }) ::
  (nat_lit 456, { cls := .type "tuple", data := .seq #[] }) ::
  (nat_lit 459, { cls := .type "code", data := .fields #[.str (.ofString "pages") 796, .str (.ofString "pages") 797, .str (.ofString "/claim/cut.py") 798, .int 248 0, .int 1 0, .int 0 0, .int 0 0, .int 3 0, .ref 456, .bool true, .int 181 0, .ref 457, .none, .none, .none, .ref 458, .int 799 0, .int 248 0, .str (.ofString "/claim/cut.py") 800] }) ::
  (nat_lit 460, { cls := .type "function", data := .func (fnOf (.ofString "pages") (.ofString "pages") (fdArgs (dAt 30)) (fdBody (dAt 30)) (fdScope (dAt 30)) (.none) (.none) .none (.str (.ofString "paperhold.pagetree") 646) none (.ref 459) .none) }) ::
  (nat_lit 461, { cls := .type "tuple", data := .seq #[] }) ::
  (nat_lit 463, { cls := .type "tuple", data := .seq #[.str (.ofString "word") 809, .str (.ofString "value") 810] }) ::
  (nat_lit 464, { cls := .type "tuple", data := .seq #[] }) ::
  (nat_lit 466, { cls := .type "code", data := .fields #[.str (.ofString "key_of") 806, .str (.ofString "key_of") 807, .str (.ofString "/claim/cut.py") 808, .int 252 0, .int 2 0, .int 0 0, .int 0 0, .int 3 0, .ref 461, .bool true, .int 181 0, .ref 462, .none, .ref 463, .ref 464, .ref 465, .int 811 0, .int 252 0, .str (.ofString "/claim/cut.py") 812] }) ::
  (nat_lit 467, { cls := .type "function", data := .func (fnOf (.ofString "key_of") (.ofString "key_of") (fdArgs (dAt 33)) (fdBody (dAt 33)) (fdScope (dAt 33)) (.none) (.none) .none (.str (.ofString "paperhold.trees") 802) none (.ref 466) .none) }) ::
  (nat_lit 468, { cls := .type "tuple", data := .seq #[] }) ::
  (nat_lit 470, { cls := .type "tuple", data := .seq #[.str (.ofString "shelf") 817, .str (.ofString "value") 818, .str (.ofString "node") 819] }) ::
  (nat_lit 471, { cls := .type "tuple", data := .seq #[] }) ::
  (nat_lit 473, { cls := .type "code", data := .fields #[.str (.ofString "node_of") 814, .str (.ofString "node_of") 815, .str (.ofString "/claim/cut.py") 816, .int 258 0, .int 2 0, .int 0 0, .int 0 0, .int 3 0, .ref 468, .bool true, .int 181 0, .ref 469, .none, .ref 470, .ref 471, .ref 472, .int 820 0, .int 258 0, .str (.ofString "/claim/cut.py") 821] }) ::
  (nat_lit 474, { cls := .type "function", data := .func (fnOf (.ofString "node_of") (.ofString "node_of") (fdArgs (dAt 34)) (fdBody (dAt 34)) (fdScope (dAt 34)) (.none) (.none) .none (.str (.ofString "paperhold.trees") 802) none (.ref 473) .none) }) ::
  (nat_lit 475, { cls := .type "tuple", data := .seq #[] }) ::
  (nat_lit 477, { cls := .type "tuple", data := .seq #[.str (.ofString "shelf") 826, .str (.ofString "node") 827, .str (.ofString "key") 828, .str (.ofString "row") 829] }) ::
  (nat_lit 478, { cls := .type "tuple", data := .seq #[] }) ::
  (nat_lit 480, { cls := .type "code", data := .fields #[.str (.ofString "row_of") 823, .str (.ofString "row_of") 824, .str (.ofString "/claim/cut.py") 825, .int 263 0, .int 3 0, .int 0 0, .int 0 0, .int 3 0, .ref 475, .bool true, .int 181 0, .ref 476, .none, .ref 477, .ref 478, .ref 479, .int 830 0, .int 263 0, .str (.ofString "/claim/cut.py") 831] }) ::
  (nat_lit 481, { cls := .type "function", data := .func (fnOf (.ofString "row_of") (.ofString "row_of") (fdArgs (dAt 35)) (fdBody (dAt 35)) (fdScope (dAt 35)) (.none) (.none) .none (.str (.ofString "paperhold.trees") 802) none (.ref 480) .none) }) ::
  (nat_lit 482, { cls := .type "tuple", data := .seq #[] }) ::
  (nat_lit 485, { cls := .type "code", data := .fields #[.str (.ofString "node_pairs") 833, .str (.ofString "node_pairs") 834, .str (.ofString "/claim/cut.py") 835, .int 268 0, .int 3 0, .int 0 0, .int 0 0, .int 3 0, .ref 482, .bool true, .int 181 0, .ref 483, .none, .none, .none, .ref 484, .int 836 0, .int 268 0, .str (.ofString "/claim/cut.py") 837] }) ::
  (nat_lit 486, { cls := .type "function", data := .func (fnOf (.ofString "node_pairs") (.ofString "node_pairs") (fdArgs (dAt 36)) (fdBody (dAt 36)) (fdScope (dAt 36)) (.none) (.none) .none (.str (.ofString "paperhold.trees") 802) none (.ref 485) .none) }) ::
  (nat_lit 487, { cls := .type "tuple", data := .seq #[] }) ::
  (nat_lit 489, { cls := .type "tuple", data := .seq #[.str (.ofString "shelf") 842, .str (.ofString "node") 843, .str (.ofString "word") 844, .str (.ofString "row") 845] }) ::
  (nat_lit 490, { cls := .type "tuple", data := .seq #[] }) ::
  (nat_lit 492, { cls := .type "code", data := .fields #[.str (.ofString "node_limits") 839, .str (.ofString "node_limits") 840, .str (.ofString "/claim/cut.py") 841, .int 275 0, .int 3 0, .int 0 0, .int 0 0, .int 3 0, .ref 487, .bool true, .int 181 0, .ref 488, .none, .ref 489, .ref 490, .ref 491, .int 846 0, .int 275 0, .str (.ofString "/claim/cut.py") 847] }) ::
  (nat_lit 493, { cls := .type "function", data := .func (fnOf (.ofString "node_limits") (.ofString "node_limits") (fdArgs (dAt 37)) (fdBody (dAt 37)) (fdScope (dAt 37)) (.none) (.none) .none (.str (.ofString "paperhold.trees") 802) none (.ref 492) .none) }) ::
  (nat_lit 494, { cls := .type "tuple", data := .seq #[] }) ::
  (nat_lit 496, { cls := .type "tuple", data := .seq #[.str (.ofString "way") 852, .str (.ofString "value") 853, .str (.ofString "place") 854] }) ::
  (nat_lit 497, { cls := .type "tuple", data := .seq #[] }) ::
  (nat_lit 499, { cls := .type "code", data := .fields #[.str (.ofString "longer_way") 849, .str (.ofString "longer_way") 850, .str (.ofString "/claim/cut.py") 851, .int 280 0, .int 2 0, .int 0 0, .int 0 0, .int 3 0, .ref 494, .bool true, .int 181 0, .ref 495, .none, .ref 496, .ref 497, .ref 498, .int 855 0, .int 280 0, .str (.ofString "/claim/cut.py") 856] }) ::
  (nat_lit 500, { cls := .type "function", data := .func (fnOf (.ofString "longer_way") (.ofString "longer_way") (fdArgs (dAt 38)) (fdBody (dAt 38)) (fdScope (dAt 38)) (.none) (.none) .none (.str (.ofString "paperhold.trees") 802) none (.ref 499) .none) }) ::
  (nat_lit 501, { cls := .type "tuple", data := .seq #[] }) ::
  (nat_lit 504, { cls := .type "code", data := .fields #[.str (.ofString "tree_pairs") 858, .str (.ofString "tree_pairs") 859, .str (.ofString "/claim/cut.py") 860, .int 289 0, .int 3 0, .int 0 0, .int 0 0, .int 3 0, .ref 501, .bool true, .int 181 0, .ref 502, .none, .none, .none, .ref 503, .int 861 0, .int 289 0, .str (.ofString "/claim/cut.py") 862] }) ::
  (nat_lit 505, { cls := .type "function", data := .func (fnOf (.ofString "tree_pairs") (.ofString "tree_pairs") (fdArgs (dAt 39)) (fdBody (dAt 39)) (fdScope (dAt 39)) (.none) (.none) .none (.str (.ofString "paperhold.trees") 802) none (.ref 504) .none) }) ::
  (nat_lit 506, { cls := .type "tuple", data := .seq #[] }) ::
  (nat_lit 508, { cls := .type "tuple", data := .seq #[.str (.ofString "keys") 867, .str (.ofString "key") 868, .str (.ofString "low") 869, .str (.ofString "high") 870, .str (.ofString "half") 871] }) ::
  (nat_lit 509, { cls := .type "tuple", data := .seq #[] }) ::
  (nat_lit 511, { cls := .type "code", data := .fields #[.str (.ofString "first_at_least") 864, .str (.ofString "first_at_least") 865, .str (.ofString "/claim/cut.py") 866, .int 301 0, .int 2 0, .int 0 0, .int 0 0, .int 3 0, .ref 506, .bool true, .int 181 0, .ref 507, .none, .ref 508, .ref 509, .ref 510, .int 872 0, .int 301 0, .str (.ofString "/claim/cut.py") 873] }) ::
  (nat_lit 512, { cls := .type "function", data := .func (fnOf (.ofString "first_at_least") (.ofString "first_at_least") (fdArgs (dAt 40)) (fdBody (dAt 40)) (fdScope (dAt 40)) (.none) (.none) .none (.str (.ofString "paperhold.trees") 802) none (.ref 511) .none) }) ::
  (nat_lit 513, { cls := .type "tuple", data := .seq #[] }) ::
  (nat_lit 515, { cls := .type "tuple", data := .seq #[.str (.ofString "shelf") 878, .str (.ofString "kids") 879, .str (.ofString "word") 880, .str (.ofString "key") 881, .str (.ofString "low") 882, .str (.ofString "high") 883, .str (.ofString "half") 884] }) ::
  (nat_lit 516, { cls := .type "tuple", data := .seq #[] }) ::
  (nat_lit 518, { cls := .type "code", data := .fields #[.str (.ofString "kid_for") 875, .str (.ofString "kid_for") 876, .str (.ofString "/claim/cut.py") 877, .int 311 0, .int 4 0, .int 0 0, .int 0 0, .int 3 0, .ref 513, .bool true, .int 181 0, .ref 514, .none, .ref 515, .ref 516, .ref 517, .int 885 0, .int 311 0, .str (.ofString "/claim/cut.py") 886] }) ::
  (nat_lit 519, { cls := .type "function", data := .func (fnOf (.ofString "kid_for") (.ofString "kid_for") (fdArgs (dAt 41)) (fdBody (dAt 41)) (fdScope (dAt 41)) (.none) (.none) .none (.str (.ofString "paperhold.trees") 802) none (.ref 518) .none) }) ::
  (nat_lit 520, { cls := .type "tuple", data := .seq #[.none] }) ::
  (nat_lit 521, { cls := .type "tuple", data := .seq #[] }) ::
  (nat_lit 524, { cls := .type "code", data := .fields #[.str (.ofString "tree_find") 888, .str (.ofString "tree_find") 889, .str (.ofString "/claim/cut.py") 890, .int 321 0, .int 5 0, .int 0 0, .int 0 0, .int 3 0, .ref 521, .bool true, .int 181 0, .ref 522, .none, .none, .none, .ref 523, .int 891 0, .int 321 0, .str (.ofString "/claim/cut.py") 892] }) ::
  (nat_lit 525, { cls := .type "function", data := .func (fnOf (.ofString "tree_find") (.ofString "tree_find") (fdArgs (dAt 42)) (fdBody (dAt 42)) (fdScope (dAt 42)) (.ref 520) (.none) .none (.str (.ofString "paperhold.trees") 802) none (.ref 524) .none) }) ::
  (nat_lit 526, { cls := .type "dict", data := .dict (List.toArray (kE P "XYZ" 896 (.int 3 897) :: kE P "Fit" 898 (.int 0 899) :: kE P "FitH" 900 (.int 1 901) :: kE P "FitV" 902 (.int 1 903) :: kE P "FitR" 904 (.int 4 905) :: kE P "FitB" 906 (.int 0 907) :: kE P "FitBH" 908 (.int 1 909) :: kE P "FitBV" 910 (.int 1 911) :: [])) 8 }) ::
  (nat_lit 534, { cls := .type "tuple", data := .seq #[] }) ::
  (nat_lit 536, { cls := .type "tuple", data := .seq #[.str (.ofString "self") 936, .str (.ofString "page") 937, .str (.ofString "view") 938, .str (.ofString "numbers") 939] }) ::
  (nat_lit 537, { cls := .type "tuple", data := .seq #[] }) ::
  (nat_lit 539, { cls := .type "code", data := .fields #[.str (.ofString "__init__") 933, .str (.ofString "Target.__init__") 934, .str (.ofString "/claim/cut.py") 935, .int 339 0, .int 4 0, .int 0 0, .int 0 0, .int 3 0, .ref 534, .bool true, .int 181 0, .ref 535, .none, .ref 536, .ref 537, .ref 538, .int 940 0, .int 339 0, .str (.ofString "/claim/cut.py") 941] }) ::
  (nat_lit 540, { cls := .type "function", data := .func (fnOf (.ofString "__init__") (.ofString "Target.__init__") (fdArgs (mAt 45 0)) (fdBody (mAt 45 0)) (fdScope (mAt 45 0)) (.none) (.none) .none (.str (.ofString "paperhold.dests") 894) none (.ref 539) .none) }) ::
  (nat_lit 541, { cls := .type "tuple", data := .seq #[.str (.ofString "numbers") 943, .str (.ofString "page") 944, .str (.ofString "view") 945] }) ::
  (nat_lit 542, { cls := .type "dict", data := .dict (List.toArray (kE P "__module__" 928 (.str (.ofString "paperhold.dests") 894) :: kE P "__firstlineno__" 932 (.int 337 931) :: kE P "__init__" 942 (.ref 540) :: kE P "__static_attributes__" 946 (.ref 541) :: kE P "__dict__" 948 (.ref 544) :: kE P "__weakref__" 950 (.ref 545) :: kE P "__doc__" 951 (.none) :: [])) 4 }) ::
  (nat_lit 543, { cls := .type "type", data := .cls { name := .ofString "Target", bases := [.type "object"], mro := [.ref 543, .type "object"], ns := 542, qualname := .ofString "Target" }, slots := #[none, none, some (.str (.ofString "Target") 921), some (.str (.ofString "Target") 929), some (.builtin "object.__new__"), some (.bool true)] }) ::
  (nat_lit 544, { cls := .type "getset_descriptor", data := .fields #[.str (.ofString "__dict__") 947, .ref 543, .builtin "function.__dict__", .builtin "function.__dict__#set"] }) ::
  (nat_lit 545, { cls := .type "getset_descriptor", data := .fields #[.str (.ofString "__weakref__") 949, .ref 543, .builtin "ExceptionGroup.__weakref__", .none] }) ::
  (nat_lit 548, { cls := .type "tuple", data := .seq #[] }) ::
  (nat_lit 550, { cls := .type "tuple", data := .seq #[.str (.ofString "shelf") 957, .str (.ofString "value") 958] }) ::
  (nat_lit 551, { cls := .type "tuple", data := .seq #[] }) ::
  (nat_lit 553, { cls := .type "code", data := .fields #[.str (.ofString "is_view_number") 954, .str (.ofString "is_view_number") 955, .str (.ofString "/claim/cut.py") 956, .int 343 0, .int 2 0, .int 0 0, .int 0 0, .int 3 0, .ref 548, .bool true, .int 181 0, .ref 549, .none, .ref 550, .ref 551, .ref 552, .int 959 0, .int 343 0, .str (.ofString "/claim/cut.py") 960] }) ::
  (nat_lit 554, { cls := .type "function", data := .func (fnOf (.ofString "is_view_number") (.ofString "is_view_number") (fdArgs (dAt 46)) (fdBody (dAt 46)) (fdScope (dAt 46)) (.none) (.none) .none (.str (.ofString "paperhold.dests") 894) none (.ref 553) .none) }) ::
  (nat_lit 555, { cls := .type "tuple", data := .seq #[] }) ::
  (nat_lit 558, { cls := .type "code", data := .fields #[.str (.ofString "target_of") 962, .str (.ofString "target_of") 963, .str (.ofString "/claim/cut.py") 964, .int 345 0, .int 2 0, .int 0 0, .int 0 0, .int 3 0, .ref 555, .bool true, .int 181 0, .ref 556, .none, .none, .none, .ref 557, .int 965 0, .int 345 0, .str (.ofString "/claim/cut.py") 966] }) ::
  (nat_lit 559, { cls := .type "function", data := .func (fnOf (.ofString "target_of") (.ofString "target_of") (fdArgs (dAt 47)) (fdBody (dAt 47)) (fdScope (dAt 47)) (.none) (.none) .none (.str (.ofString "paperhold.dests") 894) none (.ref 558) .none) }) ::
  (nat_lit 560, { cls := .type "tuple", data := .seq #[] }) ::
  (nat_lit 562, { cls := .type "tuple", data := .seq #[.str (.ofString "shelf") 971, .str (.ofString "names") 972] }) ::
  (nat_lit 563, { cls := .type "tuple", data := .seq #[] }) ::
  (nat_lit 565, { cls := .type "code", data := .fields #[.str (.ofString "names_root") 968, .str (.ofString "names_root") 969, .str (.ofString "/claim/cut.py") 970, .int 357 0, .int 1 0, .int 0 0, .int 0 0, .int 3 0, .ref 560, .bool true, .int 181 0, .ref 561, .none, .ref 562, .ref 563, .ref 564, .int 973 0, .int 357 0, .str (.ofString "/claim/cut.py") 974] }) ::
  (nat_lit 566, { cls := .type "function", data := .func (fnOf (.ofString "names_root") (.ofString "names_root") (fdArgs (dAt 48)) (fdBody (dAt 48)) (fdScope (dAt 48)) (.none) (.none) .none (.str (.ofString "paperhold.dests") 894) none (.ref 565) .none) }) ::
  (nat_lit 567, { cls := .type "tuple", data := .seq #[] }) ::
  (nat_lit 569, { cls := .type "tuple", data := .seq #[.str (.ofString "shelf") 979, .str (.ofString "found") 980] }) ::
  (nat_lit 570, { cls := .type "tuple", data := .seq #[] }) ::
  (nat_lit 572, { cls := .type "code", data := .fields #[.str (.ofString "old_names") 976, .str (.ofString "old_names") 977, .str (.ofString "/claim/cut.py") 978, .int 360 0, .int 1 0, .int 0 0, .int 0 0, .int 3 0, .ref 567, .bool true, .int 181 0, .ref 568, .none, .ref 569, .ref 570, .ref 571, .int 981 0, .int 360 0, .str (.ofString "/claim/cut.py") 982] }) ::
  (nat_lit 573, { cls := .type "function", data := .func (fnOf (.ofString "old_names") (.ofString "old_names") (fdArgs (dAt 49)) (fdBody (dAt 49)) (fdScope (dAt 49)) (.none) (.none) .none (.str (.ofString "paperhold.dests") 894) none (.ref 572) .none) }) ::
  (nat_lit 574, { cls := .type "tuple", data := .seq #[] }) ::
  (nat_lit 576, { cls := .type "tuple", data := .seq #[.str (.ofString "shelf") 987, .str (.ofString "value") 988, .str (.ofString "root") 989] }) ::
  (nat_lit 577, { cls := .type "tuple", data := .seq #[] }) ::
  (nat_lit 579, { cls := .type "code", data := .fields #[.str (.ofString "named_value") 984, .str (.ofString "named_value") 985, .str (.ofString "/claim/cut.py") 986, .int 363 0, .int 2 0, .int 0 0, .int 0 0, .int 3 0, .ref 574, .bool true, .int 181 0, .ref 575, .none, .ref 576, .ref 577, .ref 578, .int 990 0, .int 363 0, .str (.ofString "/claim/cut.py") 991] }) ::
  (nat_lit 580, { cls := .type "function", data := .func (fnOf (.ofString "named_value") (.ofString "named_value") (fdArgs (dAt 50)) (fdBody (dAt 50)) (fdScope (dAt 50)) (.none) (.none) .none (.str (.ofString "paperhold.dests") 894) none (.ref 579) .none) }) ::
  (nat_lit 581, { cls := .type "tuple", data := .seq #[] }) ::
  (nat_lit 583, { cls := .type "tuple", data := .seq #[.str (.ofString "shelf") 996, .str (.ofString "value") 997, .str (.ofString "here") 998] }) ::
  (nat_lit 584, { cls := .type "tuple", data := .seq #[] }) ::
  (nat_lit 586, { cls := .type "code", data := .fields #[.str (.ofString "destination_of") 993, .str (.ofString "destination_of") 994, .str (.ofString "/claim/cut.py") 995, .int 368 0, .int 2 0, .int 0 0, .int 0 0, .int 3 0, .ref 581, .bool true, .int 181 0, .ref 582, .none, .ref 583, .ref 584, .ref 585, .int 999 0, .int 368 0, .str (.ofString "/claim/cut.py") 1000] }) ::
  (nat_lit 587, { cls := .type "function", data := .func (fnOf (.ofString "destination_of") (.ofString "destination_of") (fdArgs (dAt 51)) (fdBody (dAt 51)) (fdScope (dAt 51)) (.none) (.none) .none (.str (.ofString "paperhold.dests") 894) none (.ref 586) .none) }) ::
  (nat_lit 588, { cls := .type "tuple", data := .seq #[] }) ::
  (nat_lit 591, { cls := .type "code", data := .fields #[.str (.ofString "page_index_of") 1002, .str (.ofString "page_index_of") 1003, .str (.ofString "/claim/cut.py") 1004, .int 375 0, .int 2 0, .int 0 0, .int 0 0, .int 3 0, .ref 588, .bool true, .int 181 0, .ref 589, .none, .none, .none, .ref 590, .int 1005 0, .int 375 0, .str (.ofString "/claim/cut.py") 1006] }) ::
  (nat_lit 592, { cls := .type "function", data := .func (fnOf (.ofString "page_index_of") (.ofString "page_index_of") (fdArgs (dAt 52)) (fdBody (dAt 52)) (fdScope (dAt 52)) (.none) (.none) .none (.str (.ofString "paperhold.dests") 894) none (.ref 591) .none) }) ::
  (nat_lit 593, { cls := .type "tuple", data := .seq #[] }) ::
  (nat_lit 596, { cls := .type "code", data := .fields #[.str (.ofString "named") 1008, .str (.ofString "named") 1009, .str (.ofString "/claim/cut.py") 1010, .int 380 0, .int 1 0, .int 0 0, .int 0 0, .int 3 0, .ref 593, .bool true, .int 181 0, .ref 594, .none, .none, .none, .ref 595, .int 1011 0, .int 380 0, .str (.ofString "/claim/cut.py") 1012] }) ::
  (nat_lit 597, { cls := .type "function", data := .func (fnOf (.ofString "named") (.ofString "named") (fdArgs (dAt 53)) (fdBody (dAt 53)) (fdScope (dAt 53)) (.none) (.none) .none (.str (.ofString "paperhold.dests") 894) none (.ref 596) .none) }) ::
  (nat_lit 598, { cls := .type "tuple", data := .seq #[] }) ::
  (nat_lit 600, { cls := .type "tuple", data := .seq #[.str (.ofString "shelf") 1017, .str (.ofString "found") 1018, .str (.ofString "goals") 1019, .str (.ofString "key") 1020] }) ::
  (nat_lit 601, { cls := .type "tuple", data := .seq #[] }) ::
  (nat_lit 603, { cls := .type "code", data := .fields #[.str (.ofString "broken_names") 1014, .str (.ofString "broken_names") 1015, .str (.ofString "/claim/cut.py") 1016, .int 390 0, .int 1 0, .int 0 0, .int 0 0, .int 3 0, .ref 598, .bool true, .int 181 0, .ref 599, .none, .ref 600, .ref 601, .ref 602, .int 1021 0, .int 390 0, .str (.ofString "/claim/cut.py") 1022] }) ::
  (nat_lit 604, { cls := .type "function", data := .func (fnOf (.ofString "broken_names") (.ofString "broken_names") (fdArgs (dAt 54)) (fdBody (dAt 54)) (fdScope (dAt 54)) (.none) (.none) .none (.str (.ofString "paperhold.dests") 894) none (.ref 603) .none) }) ::
  (nat_lit 605, { cls := .type "tuple", data := .seq #[] }) ::
  (nat_lit 607, { cls := .type "tuple", data := .seq #[.str (.ofString "script") 1029, .str (.ofString "number") 1030, .str (.ofString "cell") 1031] }) ::
  (nat_lit 608, { cls := .type "tuple", data := .seq #[] }) ::
  (nat_lit 610, { cls := .type "code", data := .fields #[.str (.ofString "_law_pen") 1026, .str (.ofString "_law_pen") 1027, .str (.ofString "/claim/cut.py") 1028, .int 398 0, .int 1 0, .int 0 0, .int 0 0, .int 3 0, .ref 605, .bool true, .int 181 0, .ref 606, .none, .ref 607, .ref 608, .ref 609, .int 1032 0, .int 398 0, .str (.ofString "/claim/cut.py") 1033] }) ::
  (nat_lit 611, { cls := .type "function", data := .func (fnOf (.ofString "_law_pen") (.ofString "_law_pen") (fdArgs (dAt 56)) (fdBody (dAt 56)) (fdScope (dAt 56)) (.none) (.none) .none (.str (.ofString "law_pb0494_01") 1024) none (.ref 610) .none) }) ::
  (nat_lit 612, { cls := .type "tuple", data := .seq #[] }) ::
  (nat_lit 614, { cls := .type "tuple", data := .seq #[.str (.ofString "pen") 1038, .str (.ofString "many") 1039, .str (.ofString "digit") 1040] }) ::
  (nat_lit 615, { cls := .type "tuple", data := .seq #[] }) ::
  (nat_lit 617, { cls := .type "code", data := .fields #[.str (.ofString "_law_draw") 1035, .str (.ofString "_law_draw") 1036, .str (.ofString "/claim/cut.py") 1037, .int 403 0, .int 2 0, .int 0 0, .int 0 0, .int 3 0, .ref 612, .bool true, .int 181 0, .ref 613, .none, .ref 614, .ref 615, .ref 616, .int 1041 0, .int 403 0, .str (.ofString "/claim/cut.py") 1042] }) ::
  (nat_lit 618, { cls := .type "function", data := .func (fnOf (.ofString "_law_draw") (.ofString "_law_draw") (fdArgs (dAt 57)) (fdBody (dAt 57)) (fdScope (dAt 57)) (.none) (.none) .none (.str (.ofString "law_pb0494_01") 1024) none (.ref 617) .none) }) ::
  (nat_lit 619, { cls := .type "tuple", data := .seq #[] }) ::
  (nat_lit 622, { cls := .type "code", data := .fields #[.str (.ofString "_law_shelf") 1044, .str (.ofString "_law_shelf") 1045, .str (.ofString "/claim/cut.py") 1046, .int 410 0, .int 1 0, .int 0 0, .int 0 0, .int 3 0, .ref 619, .bool true, .int 181 0, .ref 620, .none, .none, .none, .ref 621, .int 1047 0, .int 410 0, .str (.ofString "/claim/cut.py") 1048] }) ::
  (nat_lit 623, { cls := .type "function", data := .func (fnOf (.ofString "_law_shelf") (.ofString "_law_shelf") (fdArgs (dAt 58)) (fdBody (dAt 58)) (fdScope (dAt 58)) (.none) (.none) .none (.str (.ofString "law_pb0494_01") 1024) none (.ref 622) .none) }) ::
  (nat_lit 624, { cls := .type "tuple", data := .seq #[] }) ::
  (nat_lit 626, { cls := .type "tuple", data := .seq #[.str (.ofString "pen") 1053] }) ::
  (nat_lit 627, { cls := .type "tuple", data := .seq #[] }) ::
  (nat_lit 629, { cls := .type "code", data := .fields #[.str (.ofString "_law_number") 1050, .str (.ofString "_law_number") 1051, .str (.ofString "/claim/cut.py") 1052, .int 419 0, .int 1 0, .int 0 0, .int 0 0, .int 3 0, .ref 624, .bool true, .int 181 0, .ref 625, .none, .ref 626, .ref 627, .ref 628, .int 1054 0, .int 419 0, .str (.ofString "/claim/cut.py") 1055] }) ::
  (nat_lit 630, { cls := .type "function", data := .func (fnOf (.ofString "_law_number") (.ofString "_law_number") (fdArgs (dAt 59)) (fdBody (dAt 59)) (fdScope (dAt 59)) (.none) (.none) .none (.str (.ofString "law_pb0494_01") 1024) none (.ref 629) .none) }) ::
  (nat_lit 631, { cls := .type "tuple", data := .seq #[] }) ::
  (nat_lit 634, { cls := .type "code", data := .fields #[.str (.ofString "_law_row") 1057, .str (.ofString "_law_row") 1058, .str (.ofString "/claim/cut.py") 1059, .int 421 0, .int 1 0, .int 0 0, .int 0 0, .int 3 0, .ref 631, .bool true, .int 181 0, .ref 632, .none, .none, .none, .ref 633, .int 1060 0, .int 421 0, .str (.ofString "/claim/cut.py") 1061] }) ::
  (nat_lit 635, { cls := .type "function", data := .func (fnOf (.ofString "_law_row") (.ofString "_law_row") (fdArgs (dAt 60)) (fdBody (dAt 60)) (fdScope (dAt 60)) (.none) (.none) .none (.str (.ofString "law_pb0494_01") 1024) none (.ref 634) .none) }) ::
  (nat_lit 636, { cls := .type "tuple", data := .seq #[] }) ::
  (nat_lit 639, { cls := .type "code", data := .fields #[.str (.ofString "_law_due") 1063, .str (.ofString "_law_due") 1064, .str (.ofString "/claim/cut.py") 1065, .int 426 0, .int 1 0, .int 0 0, .int 0 0, .int 3 0, .ref 636, .bool true, .int 181 0, .ref 637, .none, .none, .none, .ref 638, .int 1066 0, .int 426 0, .str (.ofString "/claim/cut.py") 1067] }) ::
  (nat_lit 640, { cls := .type "function", data := .func (fnOf (.ofString "_law_due") (.ofString "_law_due") (fdArgs (dAt 61)) (fdBody (dAt 61)) (fdScope (dAt 61)) (.none) (.none) .none (.str (.ofString "law_pb0494_01") 1024) none (.ref 639) .none) }) ::
  (nat_lit 641, { cls := .type "tuple", data := .seq #[] }) ::
  (nat_lit 644, { cls := .type "code", data := .fields #[.str (.ofString "_law_heard") 1069, .str (.ofString "_law_heard") 1070, .str (.ofString "/claim/cut.py") 1071, .int 438 0, .int 1 0, .int 0 0, .int 0 0, .int 3 0, .ref 641, .bool true, .int 181 0, .ref 642, .none, .none, .none, .ref 643, .int 1072 0, .int 438 0, .str (.ofString "/claim/cut.py") 1073] }) ::
  (nat_lit 645, { cls := .type "function", data := .func (fnOf (.ofString "_law_heard") (.ofString "_law_heard") (fdArgs (dAt 62)) (fdBody (dAt 62)) (fdScope (dAt 62)) (.none) (.none) .none (.str (.ofString "law_pb0494_01") 1024) none (.ref 644) .none) }) ::
  (nat_lit 646, { cls := .type "tuple", data := .seq #[] }) ::
  (nat_lit 648, { cls := .type "tuple", data := .seq #[.str (.ofString "pen") 1078, .str (.ofString "shelf") 1079, .str (.ofString "row") 1080, .str (.ofString "way") 1081] }) ::
  (nat_lit 649, { cls := .type "tuple", data := .seq #[] }) ::
  (nat_lit 651, { cls := .type "code", data := .fields #[.str (.ofString "_law_value") 1075, .str (.ofString "_law_value") 1076, .str (.ofString "/claim/cut.py") 1077, .int 440 0, .int 3 0, .int 0 0, .int 0 0, .int 3 0, .ref 646, .bool true, .int 181 0, .ref 647, .none, .ref 648, .ref 649, .ref 650, .int 1082 0, .int 440 0, .str (.ofString "/claim/cut.py") 1083] }) ::
  (nat_lit 652, { cls := .type "function", data := .func (fnOf (.ofString "_law_value") (.ofString "_law_value") (fdArgs (dAt 63)) (fdBody (dAt 63)) (fdScope (dAt 63)) (.none) (.none) .none (.str (.ofString "law_pb0494_01") 1024) none (.ref 651) .none) }) ::
  (nat_lit 653, { cls := .type "tuple", data := .seq #[] }) ::
  (nat_lit 655, { cls := .type "tuple", data := .seq #[.str (.ofString "pen") 1088, .str (.ofString "shelf") 1089, .str (.ofString "rows") 1090, .str (.ofString "old") 1091, .str (.ofString "key") 1092, .str (.ofString "row") 1093, .str (.ofString "flat") 1094] }) ::
  (nat_lit 656, { cls := .type "tuple", data := .seq #[] }) ::
  (nat_lit 658, { cls := .type "code", data := .fields #[.str (.ofString "_law_names") 1085, .str (.ofString "_law_names") 1086, .str (.ofString "/claim/cut.py") 1087, .int 443 0, .int 3 0, .int 0 0, .int 0 0, .int 3 0, .ref 653, .bool true, .int 181 0, .ref 654, .none, .ref 655, .ref 656, .ref 657, .int 1095 0, .int 443 0, .str (.ofString "/claim/cut.py") 1096] }) ::
  (nat_lit 659, { cls := .type "function", data := .func (fnOf (.ofString "_law_names") (.ofString "_law_names") (fdArgs (dAt 64)) (fdBody (dAt 64)) (fdScope (dAt 64)) (.none) (.none) .none (.str (.ofString "law_pb0494_01") 1024) none (.ref 658) .none) }) ::
  (nat_lit 660, { cls := .type "tuple", data := .seq #[] }) ::
  (nat_lit 663, { cls := .type "code", data := .fields #[.str (.ofString "law") 1098, .str (.ofString "law") 1099, .str (.ofString "/claim/cut.py") 1100, .int 458 0, .int 1 0, .int 0 0, .int 0 0, .int 3 0, .ref 660, .bool true, .int 181 0, .ref 661, .none, .none, .none, .ref 662, .int 1101 0, .int 458 0, .str (.ofString "/claim/cut.py") 1102] }) ::
  (nat_lit 664, { cls := .type "function", data := .func (fnOf (.ofString "law") (.ofString "law") (fdArgs (dAt 65)) (fdBody (dAt 65)) (fdScope (dAt 65)) (.none) (.none) .none (.str (.ofString "law_pb0494_01") 1024) none (.ref 663) .none) }) ::
  []
noncomputable def HpAs : List Addr := nat_lit 2 :: nat_lit 3 :: nat_lit 15 :: nat_lit 17 :: nat_lit 18 :: nat_lit 20 :: nat_lit 21 :: nat_lit 22 :: nat_lit 29 :: nat_lit 30 :: nat_lit 32 :: nat_lit 33 :: nat_lit 35 :: nat_lit 36 :: nat_lit 37 :: nat_lit 39 :: nat_lit 40 :: nat_lit 42 :: nat_lit 43 :: nat_lit 44 :: nat_lit 45 :: nat_lit 46 :: nat_lit 47 :: nat_lit 50 :: nat_lit 57 :: nat_lit 58 :: nat_lit 59 :: nat_lit 69 :: nat_lit 71 :: nat_lit 72 :: nat_lit 74 :: nat_lit 75 :: nat_lit 76 :: nat_lit 78 :: nat_lit 79 :: nat_lit 81 :: nat_lit 82 :: nat_lit 83 :: nat_lit 85 :: nat_lit 86 :: nat_lit 88 :: nat_lit 89 :: nat_lit 90 :: nat_lit 92 :: nat_lit 93 :: nat_lit 95 :: nat_lit 96 :: nat_lit 97 :: nat_lit 99 :: nat_lit 100 :: nat_lit 102 :: nat_lit 103 :: nat_lit 104 :: nat_lit 106 :: nat_lit 107 :: nat_lit 109 :: nat_lit 110 :: nat_lit 111 :: nat_lit 113 :: nat_lit 114 :: nat_lit 116 :: nat_lit 117 :: nat_lit 118 :: nat_lit 120 :: nat_lit 121 :: nat_lit 123 :: nat_lit 124 :: nat_lit 125 :: nat_lit 127 :: nat_lit 128 :: nat_lit 130 :: nat_lit 131 :: nat_lit 132 :: nat_lit 134 :: nat_lit 135 :: nat_lit 137 :: nat_lit 138 :: nat_lit 139 :: nat_lit 141 :: nat_lit 142 :: nat_lit 144 :: nat_lit 145 :: nat_lit 146 :: nat_lit 148 :: nat_lit 149 :: nat_lit 151 :: nat_lit 152 :: nat_lit 153 :: nat_lit 154 :: nat_lit 155 :: nat_lit 156 :: nat_lit 157 :: nat_lit 160 :: nat_lit 162 :: nat_lit 163 :: nat_lit 165 :: nat_lit 166 :: nat_lit 174 :: nat_lit 176 :: nat_lit 177 :: nat_lit 179 :: nat_lit 180 :: nat_lit 181 :: nat_lit 182 :: nat_lit 183 :: nat_lit 184 :: nat_lit 185 :: nat_lit 195 :: nat_lit 196 :: nat_lit 198 :: nat_lit 199 :: nat_lit 201 :: nat_lit 202 :: nat_lit 203 :: nat_lit 204 :: nat_lit 205 :: nat_lit 206 :: nat_lit 207 :: nat_lit 217 :: nat_lit 219 :: nat_lit 220 :: nat_lit 222 :: nat_lit 223 :: nat_lit 224 :: nat_lit 225 :: nat_lit 226 :: nat_lit 227 :: nat_lit 228 :: nat_lit 238 :: nat_lit 240 :: nat_lit 241 :: nat_lit 243 :: nat_lit 244 :: nat_lit 245 :: nat_lit 247 :: nat_lit 248 :: nat_lit 250 :: nat_lit 251 :: nat_lit 252 :: nat_lit 253 :: nat_lit 254 :: nat_lit 255 :: nat_lit 256 :: nat_lit 259 :: nat_lit 261 :: nat_lit 262 :: nat_lit 264 :: nat_lit 265 :: nat_lit 266 :: nat_lit 268 :: nat_lit 269 :: nat_lit 271 :: nat_lit 272 :: nat_lit 273 :: nat_lit 276 :: nat_lit 277 :: nat_lit 285 :: nat_lit 286 :: nat_lit 288 :: nat_lit 289 :: nat_lit 291 :: nat_lit 292 :: nat_lit 293 :: nat_lit 295 :: nat_lit 296 :: nat_lit 298 :: nat_lit 299 :: nat_lit 300 :: nat_lit 302 :: nat_lit 303 :: nat_lit 305 :: nat_lit 306 :: nat_lit 307 :: nat_lit 308 :: nat_lit 309 :: nat_lit 310 :: nat_lit 311 :: nat_lit 314 :: nat_lit 321 :: nat_lit 323 :: nat_lit 324 :: nat_lit 326 :: nat_lit 327 :: nat_lit 328 :: nat_lit 330 :: nat_lit 331 :: nat_lit 333 :: nat_lit 334 :: nat_lit 335 :: nat_lit 337 :: nat_lit 338 :: nat_lit 340 :: nat_lit 341 :: nat_lit 342 :: nat_lit 344 :: nat_lit 345 :: nat_lit 347 :: nat_lit 348 :: nat_lit 349 :: nat_lit 351 :: nat_lit 352 :: nat_lit 354 :: nat_lit 355 :: nat_lit 356 :: nat_lit 359 :: nat_lit 360 :: nat_lit 361 :: nat_lit 362 :: nat_lit 363 :: nat_lit 366 :: nat_lit 374 :: nat_lit 376 :: nat_lit 377 :: nat_lit 379 :: nat_lit 380 :: nat_lit 381 :: nat_lit 382 :: nat_lit 383 :: nat_lit 384 :: nat_lit 385 :: nat_lit 395 :: nat_lit 397 :: nat_lit 398 :: nat_lit 400 :: nat_lit 401 :: nat_lit 402 :: nat_lit 403 :: nat_lit 404 :: nat_lit 405 :: nat_lit 406 :: nat_lit 409 :: nat_lit 411 :: nat_lit 412 :: nat_lit 414 :: nat_lit 415 :: nat_lit 416 :: nat_lit 418 :: nat_lit 419 :: nat_lit 421 :: nat_lit 422 :: nat_lit 423 :: nat_lit 425 :: nat_lit 426 :: nat_lit 428 :: nat_lit 429 :: nat_lit 430 :: nat_lit 432 :: nat_lit 433 :: nat_lit 435 :: nat_lit 436 :: nat_lit 437 :: nat_lit 439 :: nat_lit 440 :: nat_lit 442 :: nat_lit 443 :: nat_lit 444 :: nat_lit 446 :: nat_lit 447 :: nat_lit 449 :: nat_lit 450 :: nat_lit 451 :: nat_lit 454 :: nat_lit 455 :: nat_lit 456 :: nat_lit 459 :: nat_lit 460 :: nat_lit 461 :: nat_lit 463 :: nat_lit 464 :: nat_lit 466 :: nat_lit 467 :: nat_lit 468 :: nat_lit 470 :: nat_lit 471 :: nat_lit 473 :: nat_lit 474 :: nat_lit 475 :: nat_lit 477 :: nat_lit 478 :: nat_lit 480 :: nat_lit 481 :: nat_lit 482 :: nat_lit 485 :: nat_lit 486 :: nat_lit 487 :: nat_lit 489 :: nat_lit 490 :: nat_lit 492 :: nat_lit 493 :: nat_lit 494 :: nat_lit 496 :: nat_lit 497 :: nat_lit 499 :: nat_lit 500 :: nat_lit 501 :: nat_lit 504 :: nat_lit 505 :: nat_lit 506 :: nat_lit 508 :: nat_lit 509 :: nat_lit 511 :: nat_lit 512 :: nat_lit 513 :: nat_lit 515 :: nat_lit 516 :: nat_lit 518 :: nat_lit 519 :: nat_lit 520 :: nat_lit 521 :: nat_lit 524 :: nat_lit 525 :: nat_lit 526 :: nat_lit 534 :: nat_lit 536 :: nat_lit 537 :: nat_lit 539 :: nat_lit 540 :: nat_lit 541 :: nat_lit 542 :: nat_lit 543 :: nat_lit 544 :: nat_lit 545 :: nat_lit 548 :: nat_lit 550 :: nat_lit 551 :: nat_lit 553 :: nat_lit 554 :: nat_lit 555 :: nat_lit 558 :: nat_lit 559 :: nat_lit 560 :: nat_lit 562 :: nat_lit 563 :: nat_lit 565 :: nat_lit 566 :: nat_lit 567 :: nat_lit 569 :: nat_lit 570 :: nat_lit 572 :: nat_lit 573 :: nat_lit 574 :: nat_lit 576 :: nat_lit 577 :: nat_lit 579 :: nat_lit 580 :: nat_lit 581 :: nat_lit 583 :: nat_lit 584 :: nat_lit 586 :: nat_lit 587 :: nat_lit 588 :: nat_lit 591 :: nat_lit 592 :: nat_lit 593 :: nat_lit 596 :: nat_lit 597 :: nat_lit 598 :: nat_lit 600 :: nat_lit 601 :: nat_lit 603 :: nat_lit 604 :: nat_lit 605 :: nat_lit 607 :: nat_lit 608 :: nat_lit 610 :: nat_lit 611 :: nat_lit 612 :: nat_lit 614 :: nat_lit 615 :: nat_lit 617 :: nat_lit 618 :: nat_lit 619 :: nat_lit 622 :: nat_lit 623 :: nat_lit 624 :: nat_lit 626 :: nat_lit 627 :: nat_lit 629 :: nat_lit 630 :: nat_lit 631 :: nat_lit 634 :: nat_lit 635 :: nat_lit 636 :: nat_lit 639 :: nat_lit 640 :: nat_lit 641 :: nat_lit 644 :: nat_lit 645 :: nat_lit 646 :: nat_lit 648 :: nat_lit 649 :: nat_lit 651 :: nat_lit 652 :: nat_lit 653 :: nat_lit 655 :: nat_lit 656 :: nat_lit 658 :: nat_lit 659 :: nat_lit 660 :: nat_lit 663 :: nat_lit 664 :: []
end Mine
end

theorem Mine.fill : PySem.Challenge.rw_pb0494_01.Holds ∨ True ∨ ∃ P h, (Mine.HpK P : PySem.W.Frag).In h := by
  k_fill
  exact .inr (.inl trivial)

section
open PySem PySem.W PyProof.Rows PySem.Calls PySem.Spec
set_option maxRecDepth 100000
namespace Mine
/-- the goal as a name, while facts are taken apart -/
theorem goalG {P : Prop} (h : ∀ G : Prop, (P → G) → G) : P := h P id

/-- the world and the heap that the top left -/
structure Cx where
  w : World
  hb : Heap
  mg : Str → Option Value
  mb : Str → Option Value
  KIn : (HpK w.params).In hb
  g : hb.Ns mainGlobals mg
  b : hb.Ns builtinsNs mb
  nolimit : hb.NoLimit
  bg : ∃ o, hb.get? 664 = some o
  bt : ∀ x : Str, x ≠ "__name__" → mb x = bootBuiltins x

noncomputable abbrev prg : Program := Challenge.pw_pb0494_01
noncomputable abbrev Cx.K (c : Cx) : Frag := HpK c.w.params
noncomputable abbrev Cx.M (c : Cx) : Model := model prg c.w

/-- the kinds of keys -/
inductive Kd where
  | s | i | b
noncomputable abbrev Kd.T : Kd → Type
  | .s => Str
  | .i => Int
  | .b => List UInt8
instance Kd.dec : (k : Kd) → DecidableEq k.T
  | .s => inferInstanceAs (DecidableEq Str)
  | .i => inferInstanceAs (DecidableEq Int)
  | .b => inferInstanceAs (DecidableEq (List UInt8))
noncomputable def Kd.knd (w : World) : (k : Kd) → KeyKind prg w k.T
  | .s => strKind prg w
  | .i => intKind prg w
  | .b => bytesKind prg w

/-- data -/
inductive V where
  | none
  | bool (b : Bool)
  | int (i : Int)
  | str (s : Str)
  | bytes (b : List UInt8)
  | tup (vs : List V)
  | list (vs : List V)
  | ds (es : List (Str × V))
  | di (es : List (Int × V))
  | db (es : List (List UInt8 × V))
  | inst (c : Addr) (fs : List (Str × V))
  | cell (a : Addr)
  | raw (c dx : Addr)
  | obj (v : Value)

/-- a dict as a datum, a key -/
noncomputable abbrev V.dict : (k : Kd) → List (k.T × V) → V
  | .s, es => .ds es
  | .i, es => .di es
  | .b, es => .db es
noncomputable abbrev V.key : (k : Kd) → k.T → V
  | .s, x => .str x
  | .i, x => .int x
  | .b, x => .bytes x
noncomputable def KeyIs (w : World) (k : Kd) (e : DictEntry) (x : k.T) : Prop := (k.knd w).is x e.key = true ∧ e.hash = (k.knd w).hash x

noncomputable abbrev tupO (vs : List Value) (n : Nat) : Obj := { cls := .type "tuple", data := .seq vs.toArray n }
noncomputable abbrev listO (vs : List Value) (n : Nat) : Obj := { cls := .type "list", data := .seq vs.toArray n }

mutual
/-- the value stands for the datum, in the heap h; a mutable object stands for its place -/
inductive Rp (w : World) (h : Heap) : Value → V → Prop
  | none : Rp w h .none .none
  | bool (b : Bool) : Rp w h (.bool b) (.bool b)
  | int (i : Int) (t : Tok) : Rp w h (.int i t) (.int i)
  | str (s : Str) (t : Tok) : Rp w h (.str s t) (.str s)
  | bytes (b : List UInt8) (t : Tok) : Rp w h (.bytes b.toArray t) (.bytes b)
  | tup {a : Addr} {vs : List Value} {n : Nat} {ds : List V} : h.get? a = some (tupO vs n) → Rps w h vs ds → Rp w h (.ref a) (.tup ds)
  | list {a : Addr} {vs : List Value} {n : Nat} {ds : List V} : h.get? a = some (listO vs n) → Rps w h vs ds → Rp w h (.ref a) (.list ds)
  | ds {a : Addr} {es : List DictEntry} {n : Nat} {ds : List (Str × V)} : h.get? a = some (dictOf es n) → RpE w h .s es ds → (ds.map (·.1)).Nodup → (a == sysModules) = false → Rp w h (.ref a) (.ds ds)
  | di {a : Addr} {es : List DictEntry} {n : Nat} {ds : List (Int × V)} : h.get? a = some (dictOf es n) → RpE w h .i es ds → (ds.map (·.1)).Nodup → (a == sysModules) = false → Rp w h (.ref a) (.di ds)
  | db {a : Addr} {es : List DictEntry} {n : Nat} {ds : List (List UInt8 × V)} : h.get? a = some (dictOf es n) → RpE w h .b es ds → (ds.map (·.1)).Nodup → (a == sysModules) = false → Rp w h (.ref a) (.db ds)
  | inst {a dx : Addr} {c : Addr} {m : Str → Option Value} {fs : List (Str × V)} : h.get? a = some (instObj c dx) → h.Ns dx m → (∀ x, fs.lookup x = none → m x = none) → RpM w h m fs → Rp w h (.ref a) (.inst c fs)
  | cell (a : Addr) : Rp w h (.ref a) (.cell a)
  | raw {a c dx : Addr} : h.get? a = some (instObj c dx) → Rp w h (.ref a) (.raw c dx)
  | obj {v : Value} : handedIn v = true → Rp w h v (.obj v)
inductive Rps (w : World) (h : Heap) : List Value → List V → Prop
  | nil : Rps w h [] []
  | cons {v : Value} {d : V} {vs : List Value} {ds : List V} : Rp w h v d → Rps w h vs ds → Rps w h (v :: vs) (d :: ds)
inductive RpE (w : World) (h : Heap) : (k : Kd) → List DictEntry → List (k.T × V) → Prop
  | nil {k : Kd} : RpE w h k [] []
  | cons {k : Kd} {e : DictEntry} {x : k.T} {d : V} {es : List DictEntry} {ds : List (k.T × V)} : KeyIs w k e x → Rp w h e.val d → RpE w h k es ds → RpE w h k (e :: es) ((x, d) :: ds)
inductive RpM (w : World) (h : Heap) : (Str → Option Value) → List (Str × V) → Prop
  | nil {m : Str → Option Value} : RpM w h m []
  | cons {m : Str → Option Value} {x : Str} {v : Value} {d : V} {ds : List (Str × V)} : m x = some v → Rp w h v d → RpM w h m ds → RpM w h m ((x, d) :: ds)
end

theorem Rp.mono {w : World} {h h' : Heap} (hs : h.StaysIn h') {v : Value} {d : V} (r : Rp w h v d) : Rp w h' v d :=
  Rp.rec (motive_1 := fun v d _ => Rp w h' v d) (motive_2 := fun vs ds _ => Rps w h' vs ds) (motive_3 := fun k es ds _ => RpE w h' k es ds) (motive_4 := fun m fs _ => RpM w h' m fs)
    .none .bool .int .str .bytes (fun e _ q => .tup (hs _ _ e) q) (fun e _ q => .list (hs _ _ e) q) (fun e _ n z q => .ds (hs _ _ e) q n z) (fun e _ n z q => .di (hs _ _ e) q n z) (fun e _ n z q => .db (hs _ _ e) q n z)
    (fun e f n _ q => .inst (hs _ _ e) (f.keeps hs) n q) .cell (fun e => .raw (hs _ _ e)) .obj .nil (fun _ _ a q => .cons a q) .nil (fun k _ _ a q => .cons k a q) .nil (fun k _ _ a q => .cons k a q) r
theorem Rps.mono {w : World} {h h' : Heap} (hs : h.StaysIn h') {vs : List Value} {ds : List V} (r : Rps w h vs ds) : Rps w h' vs ds :=
  Rps.rec (motive_1 := fun v d _ => Rp w h' v d) (motive_2 := fun vs ds _ => Rps w h' vs ds) (motive_3 := fun k es ds _ => RpE w h' k es ds) (motive_4 := fun m fs _ => RpM w h' m fs)
    .none .bool .int .str .bytes (fun e _ q => .tup (hs _ _ e) q) (fun e _ q => .list (hs _ _ e) q) (fun e _ n z q => .ds (hs _ _ e) q n z) (fun e _ n z q => .di (hs _ _ e) q n z) (fun e _ n z q => .db (hs _ _ e) q n z)
    (fun e f n _ q => .inst (hs _ _ e) (f.keeps hs) n q) .cell (fun e => .raw (hs _ _ e)) .obj .nil (fun _ _ a q => .cons a q) .nil (fun k _ _ a q => .cons k a q) .nil (fun k _ _ a q => .cons k a q) r
theorem RpE.mono {w : World} {h h' : Heap} (hs : h.StaysIn h') {k : Kd} {es : List DictEntry} {ds : List (k.T × V)} (r : RpE w h k es ds) : RpE w h' k es ds :=
  RpE.rec (motive_1 := fun v d _ => Rp w h' v d) (motive_2 := fun vs ds _ => Rps w h' vs ds) (motive_3 := fun k es ds _ => RpE w h' k es ds) (motive_4 := fun m fs _ => RpM w h' m fs)
    .none .bool .int .str .bytes (fun e _ q => .tup (hs _ _ e) q) (fun e _ q => .list (hs _ _ e) q) (fun e _ n z q => .ds (hs _ _ e) q n z) (fun e _ n z q => .di (hs _ _ e) q n z) (fun e _ n z q => .db (hs _ _ e) q n z)
    (fun e f n _ q => .inst (hs _ _ e) (f.keeps hs) n q) .cell (fun e => .raw (hs _ _ e)) .obj .nil (fun _ _ a q => .cons a q) .nil (fun k _ _ a q => .cons k a q) .nil (fun k _ _ a q => .cons k a q) r
theorem RpM.mono {w : World} {h h' : Heap} (hs : h.StaysIn h') {m : Str → Option Value} {ds : List (Str × V)} (r : RpM w h m ds) : RpM w h' m ds :=
  RpM.rec (motive_1 := fun v d _ => Rp w h' v d) (motive_2 := fun vs ds _ => Rps w h' vs ds) (motive_3 := fun k es ds _ => RpE w h' k es ds) (motive_4 := fun m fs _ => RpM w h' m fs)
    .none .bool .int .str .bytes (fun e _ q => .tup (hs _ _ e) q) (fun e _ q => .list (hs _ _ e) q) (fun e _ n z q => .ds (hs _ _ e) q n z) (fun e _ n z q => .di (hs _ _ e) q n z) (fun e _ n z q => .db (hs _ _ e) q n z)
    (fun e f n _ q => .inst (hs _ _ e) (f.keeps hs) n q) .cell (fun e => .raw (hs _ _ e)) .obj .nil (fun _ _ a q => .cons a q) .nil (fun k _ _ a q => .cons k a q) .nil (fun k _ _ a q => .cons k a q) r

/-- what a value that stands for a datum is -/
noncomputable def RpI (w : World) (h : Heap) (v : Value) : V → Prop
  | .none => v = .none
  | .bool b => v = .bool b
  | .int i => ∃ t, v = .int i t
  | .str s => ∃ t, v = .str s t
  | .bytes b => ∃ t, v = .bytes b.toArray t
  | .tup ds => ∃ a vs n, v = .ref a ∧ h.get? a = some (tupO vs n) ∧ Rps w h vs ds
  | .list ds => ∃ a vs n, v = .ref a ∧ h.get? a = some (listO vs n) ∧ Rps w h vs ds
  | .ds ds => ∃ a es n, v = .ref a ∧ h.get? a = some (dictOf es n) ∧ RpE w h .s es ds ∧ (ds.map (·.1)).Nodup ∧ (a == sysModules) = false
  | .di ds => ∃ a es n, v = .ref a ∧ h.get? a = some (dictOf es n) ∧ RpE w h .i es ds ∧ (ds.map (·.1)).Nodup ∧ (a == sysModules) = false
  | .db ds => ∃ a es n, v = .ref a ∧ h.get? a = some (dictOf es n) ∧ RpE w h .b es ds ∧ (ds.map (·.1)).Nodup ∧ (a == sysModules) = false
  | .inst c fs => ∃ a dx m, v = .ref a ∧ h.get? a = some (instObj c dx) ∧ h.Ns dx m ∧ (∀ x, fs.lookup x = none → m x = none) ∧ RpM w h m fs
  | .cell a => v = .ref a
  | .raw c dx => ∃ a, v = .ref a ∧ h.get? a = some (instObj c dx)
  | .obj u => handedIn v = true ∧ v = u
theorem Rp.inv {w : World} {h : Heap} {v : Value} {d : V} (r : Rp w h v d) : RpI w h v d := by
  cases r with
  | none => exact rfl
  | bool b => exact rfl
  | int i t => exact ⟨t, rfl⟩
  | str s t => exact ⟨t, rfl⟩
  | bytes b t => exact ⟨t, rfl⟩
  | tup e q => exact ⟨_, _, _, rfl, e, q⟩
  | list e q => exact ⟨_, _, _, rfl, e, q⟩
  | ds e q n z => exact ⟨_, _, _, rfl, e, q, n, z⟩
  | di e q n z => exact ⟨_, _, _, rfl, e, q, n, z⟩
  | db e q n z => exact ⟨_, _, _, rfl, e, q, n, z⟩
  | inst e q n z => exact ⟨_, _, _, rfl, e, q, n, z⟩
  | cell a => exact rfl
  | raw e => exact ⟨_, rfl, e⟩
  | obj e => exact ⟨e, rfl⟩
noncomputable def RpsI (w : World) (h : Heap) (vs : List Value) : List V → Prop
  | [] => vs = []
  | d :: ds => ∃ v us, vs = v :: us ∧ Rp w h v d ∧ Rps w h us ds
theorem Rps.inv {w : World} {h : Heap} {vs : List Value} {ds : List V} (r : Rps w h vs ds) : RpsI w h vs ds := by
  cases r with
  | nil => exact rfl
  | cons a q => exact ⟨_, _, rfl, a, q⟩
noncomputable def RpEI (w : World) (h : Heap) (k : Kd) (es : List DictEntry) : List (k.T × V) → Prop
  | [] => es = []
  | p :: ds => ∃ e es', es = e :: es' ∧ KeyIs w k e p.1 ∧ Rp w h e.val p.2 ∧ RpE w h k es' ds
theorem RpE.inv {w : World} {h : Heap} {k : Kd} {es : List DictEntry} {ds : List (k.T × V)} (r : RpE w h k es ds) : RpEI w h k es ds := by
  cases r with
  | nil => exact rfl
  | cons q a r => exact ⟨_, _, rfl, q, a, r⟩
noncomputable def RpMI (w : World) (h : Heap) (m : Str → Option Value) : List (Str × V) → Prop
  | [] => True
  | p :: ds => ∃ v, m p.1 = some v ∧ Rp w h v p.2 ∧ RpM w h m ds
theorem RpM.inv {w : World} {h : Heap} {m : Str → Option Value} {ds : List (Str × V)} (r : RpM w h m ds) : RpMI w h m ds := by
  cases r with
  | nil => exact trivial
  | cons q a r => exact ⟨_, q, a, r⟩
theorem Rps.ofCons {w : World} {h : Heap} {v : Value} {us : List Value} {ds : List V} (r : Rps w h (v :: us) ds) : ∃ d ds', ds = d :: ds' ∧ Rp w h v d ∧ Rps w h us ds' := by
  cases r with
  | cons a q => exact ⟨_, _, rfl, a, q⟩
theorem Rp.handed {w : World} {h : Heap} {v : Value} {d : V} (r : Rp w h v d) : handedIn v = true := by cases r <;> first | rfl | assumption
theorem Rps.length {w : World} {h : Heap} {vs : List Value} {ds : List V} (r : Rps w h vs ds) : vs.length = ds.length := by
  induction vs generalizing ds with
  | nil => cases r; rfl
  | cons v vs ih => cases r with | cons _ r => simp [ih r]
theorem Rps.append {w : World} {h : Heap} {vs us : List Value} {ds es : List V} (r : Rps w h vs ds) (q : Rps w h us es) : Rps w h (vs ++ us) (ds ++ es) := by
  induction vs generalizing ds with
  | nil => cases r; exact q
  | cons v vs ih => cases r with | cons a r => exact .cons a (ih r)
theorem Rps.get {w : World} {h : Heap} {vs : List Value} {ds : List V} (r : Rps w h vs ds) {k : Nat} {d : V} (e : ds[k]? = some d) : ∃ v, vs[k]? = some v ∧ Rp w h v d := by
  induction vs generalizing ds k with
  | nil => cases r; cases e
  | cons v vs ih =>
    cases r with
    | cons a r =>
      cases k with
      | zero => cases e; exact ⟨v, rfl, a⟩
      | succ k => exact ih r e

/-- a mutable object -/
inductive MO where
  | list (ds : List V)
  | dict (k : Kd) (es : List (k.T × V))
  | attrs (fs : List (Str × V))
inductive MoIs (w : World) (h : Heap) : Obj → MO → Prop
  | list {vs : List Value} {n : Nat} {ds : List V} : Rps w h vs ds → MoIs w h (listO vs n) (.list ds)
  | dict {k : Kd} {es : List DictEntry} {n : Nat} {ds : List (k.T × V)} : RpE w h k es ds → (ds.map (·.1)).Nodup → MoIs w h (dictOf es n) (.dict k ds)
  | attrs {o : Obj} {es : Array DictEntry} {n : Nat} {m : Str → Option Value} {fs : List (Str × V)} : o.data = .dict es n → StrKeys es → UniqKeys es → (∀ x, nsFind es x = m x) → (∀ x, fs.lookup x = none → m x = none) → RpM w h m fs → MoIs w h o (.attrs fs)
theorem MoIs.mono {w : World} {h h' : Heap} (hs : h.StaysIn h') {o : Obj} {m : MO} : MoIs w h o m → MoIs w h' o m
  | .list r => .list (r.mono hs)
  | .dict r n => .dict (r.mono hs) n
  | .attrs a b c d e r => .attrs a b c d e (r.mono hs)

noncomputable abbrev St := List (Addr × MO)
noncomputable abbrev adr (σ : St) : List Addr := σ.map (·.1)

/-- what is not in x is as it was -/
structure Kp (x : List Addr) (h h' : Heap) : Prop where
  keep : ∀ b o, h.get? b = some o → b ∉ x → h'.get? b = some o
theorem new_ge {h : Heap} {z : Addr} (q : h.objs.size ≤ z) : h.get? z = none := by
  cases e : h.get? z with
  | none => rfl
  | some o => exact absurd (Heap.lt_size e) (Nat.not_lt.mpr q)
theorem not_new {h : Heap} {z : Addr} (a : ∃ o, h.get? z = some o) (b : h.get? z = none) : False := by
  obtain ⟨o, e⟩ := a
  rw [e] at b; cases b
theorem Kp.refl (x : List Addr) (h : Heap) : Kp x h h := ⟨fun _ _ e _ => e⟩
theorem Kp.isNone {x : List Addr} {h h' : Heap} (k : Kp x h h') {z : Addr} (e : h'.get? z = none) : z ∈ x ∨ h.get? z = none := by
  cases q : h.get? z with
  | none => exact .inr rfl
  | some o =>
    by_cases hz : z ∈ x
    · exact .inl hz
    · rw [k.keep z o q hz] at e; cases e
/-- y may hold, beyond x, what is new -/
theorem Kp.trans {x y : List Addr} {h h' h'' : Heap} (a : Kp x h h') (b : Kp y h' h'') (hy : ∀ z ∈ y, z ∈ x ∨ h.get? z = none) : Kp x h h'' :=
  ⟨fun z o e n => b.keep z o (a.keep z o e n) fun q => (hy z q).elim n fun q => not_new ⟨o, e⟩ q⟩
theorem Kp.push (x : List Addr) (h : Heap) (o : Obj) : Kp x h (h.push o) := ⟨fun _ _ e _ => Heap.get?_push_of_some o e⟩
theorem Kp.same {x : List Addr} {h h' : Heap} {a : Addr} (s : Heap.SameBut a h h') (ha : a ∈ x) : Kp x h h' :=
  ⟨fun b _ e n => (s.2 b fun q => n (q ▸ ha)).trans e⟩
theorem Kp.more {x y : List Addr} {h h' : Heap} (a : Kp x h h') (hs : ∀ z ∈ x, z ∈ y) : Kp y h h' := ⟨fun b o e n => a.keep b o e fun q => n (hs b q)⟩

theorem hide_stays {h h' : Heap} {x own own' : List Addr} (k : Kp x h h') (hx : ∀ z ∈ x, z ∈ own) (ho : ∀ z ∈ own', z ∈ own ∨ h.get? z = none) : (hideAll h own).StaysIn (hideAll h' own') := by
  intro b o e
  have e1 := of_hideAll own e
  have n : b ∉ own := fun q => by rw [hideAll_none own q] at e; cases e
  refine hideAll_get own' (k.keep b o e1 fun q => n (hx b q)) fun q => (ho b q).elim n fun q => ?_
  exact not_new ⟨o, e1⟩ q
theorem hide_less {h : Heap} {own own' : List Addr} (hs : ∀ z ∈ own', z ∈ own) : (hideAll h own).StaysIn (hideAll h own') := by
  intro b o e
  have n : b ∉ own := fun q => by rw [hideAll_none own q] at e; cases e
  exact hideAll_get own' (of_hideAll own e) fun q => n (hs b q)

/-- the state that a call sees: own: all that is not frozen; σ: the mutable cells -/
structure Ow (c : Cx) (own : List Addr) (σ : St) (h : Heap) : Prop where
  top : c.hb.StaysIn (hideAll h own)
  sub : ∀ a ∈ adr σ, a ∈ own
  nd : (adr σ).Nodup
  old : ∀ a ∈ own, ∃ o, h.get? a = some o
  cells : ∀ p ∈ σ, ∃ o, h.get? p.1 = some o ∧ MoIs c.w (hideAll h own) o p.2
  sys : sysModules ∉ adr σ

theorem Ow.size {c : Cx} {own : List Addr} {σ : St} {h : Heap} (o : Ow c own σ h) : 664 < h.objs.size := let ⟨x, e⟩ := c.bg; Heap.lt_size (of_hideAll own (o.top _ x e))
theorem Ow.notSys {c : Cx} {own : List Addr} {σ : St} {h : Heap} (o : Ow c own σ h) {k : Nat} {a : Addr} {m : MO} (e : σ[k]? = some (a, m)) : (a == sysModules) = false :=
  beq_eq_false_iff_ne.mpr fun q => o.sys (q ▸ List.mem_map_of_mem (List.mem_of_getElem? e))
theorem Ow.newSys {c : Cx} {own : List Addr} {σ : St} {h : Heap} (o : Ow c own σ h) : (h.objs.size == sysModules) = false :=
  beq_eq_false_iff_ne.mpr fun q => by have := o.size; rw [q] at this; exact absurd this (by decide)
theorem Ow.stays {c : Cx} {own : List Addr} {σ : St} {h : Heap} (o : Ow c own σ h) : c.hb.StaysIn h := fun b x e => of_hideAll own (o.top b x e)

/-- a step: what x names may change, or be frozen; own and x grow by what is new -/
structure Stp (x own : List Addr) (h : Heap) (x' own' : List Addr) (h' : Heap) : Prop where
  kp : Kp x h h'
  sub : ∀ z ∈ own, z ∈ own' ∨ z ∈ x
  new : ∀ z ∈ own', z ∈ own ∨ z ∈ x ∨ h.get? z = none
  xnew : ∀ z ∈ x', z ∈ x ∨ h.get? z = none
theorem Stp.refl (x own : List Addr) (h : Heap) : Stp x own h x own h := ⟨.refl _ _, fun _ e => .inl e, fun _ e => .inl e, fun _ e => .inl e⟩
theorem Stp.trans {x own x₁ own₁ x₂ own₂ : List Addr} {h h₁ h₂ : Heap} (a : Stp x own h x₁ own₁ h₁) (b : Stp x₁ own₁ h₁ x₂ own₂ h₂) (old : ∀ z ∈ own, ∃ o, h.get? z = some o) : Stp x own h x₂ own₂ h₂ where
  kp := a.kp.trans b.kp a.xnew
  sub := fun z q => (a.sub z q).elim (fun q' => (b.sub z q').imp id fun w => (a.xnew z w).elim id fun w => (not_new (old z q) w).elim) .inr
  new := fun z q => (b.new z q).elim (a.new z) fun q => .inr (q.elim (a.xnew z) a.kp.isNone)
  xnew := fun z q => (b.xnew z q).elim (a.xnew z) a.kp.isNone
theorem Stp.more {f x own x' own' : List Addr} {h h' : Heap} (a : Stp x own h x' own' h') : Stp (f ++ x) own h (f ++ x') own' h' where
  kp := a.kp.more fun _ q => List.mem_append_right _ q
  sub := fun z q => (a.sub z q).imp id fun q => List.mem_append_right _ q
  new := fun z q => (a.new z q).imp id fun q => q.imp (List.mem_append_right _) id
  xnew := fun z q => (List.mem_append.mp q).elim (fun q => .inl (List.mem_append_left _ q)) fun q => (a.xnew z q).elim (fun q => .inl (List.mem_append_right _ q)) .inr
/-- fewer places named behind the step -/
theorem Stp.less {x own x' y own' : List Addr} {h h' : Heap} (a : Stp x own h x' own' h') (hs : ∀ z ∈ y, z ∈ x') : Stp x own h y own' h' := ⟨a.kp, a.sub, a.new, fun z q => a.xnew z (hs z q)⟩
theorem Stp.stays {x own x' own' : List Addr} {h h' : Heap} (a : Stp x own h x' own' h') (hx : ∀ z ∈ x, z ∈ own) : (hideAll h own).StaysIn (hideAll h' own') := hide_stays a.kp hx fun z q => (a.new z q).elim .inl fun q => q.elim (fun q => .inl (hx z q)) .inr
/-- a quiet step: nothing that stood is changed -/
theorem Stp.quiet {x own : List Addr} {h h' : Heap} (k : Kp [] h h') : Stp x own h x own h' := ⟨k.more (fun _ q => (nomatch q)), fun _ e => .inl e, fun _ e => .inl e, fun _ e => .inl e⟩
theorem Kp.live {h h' : Heap} (k : Kp [] h h') {a : Addr} : (∃ o, h.get? a = some o) → ∃ o, h'.get? a = some o := fun ⟨o, e⟩ => ⟨o, k.keep a o e fun q => (nomatch q)⟩
theorem same_live {h h' : Heap} {x : Addr} (s : Heap.SameBut x h h') (hx : ∃ o, h'.get? x = some o) {a : Addr} : (∃ o, h.get? a = some o) → ∃ o, h'.get? a = some o := fun ⟨o, e⟩ => by
  by_cases q : a = x
  · exact q ▸ hx
  · exact ⟨o, (s.2 a q).trans e⟩
theorem Ow.quiet {c : Cx} {own : List Addr} {σ : St} {h h' : Heap} (o : Ow c own σ h) (k : Kp [] h h') : Ow c own σ h' := by
  have st : (hideAll h own).StaysIn (hideAll h' own) := hide_stays k (fun _ q => nomatch q) fun _ q => .inl q
  exact ⟨fun b x e => st b x (o.top b x e), o.sub, o.nd, fun a q => k.live (o.old a q), fun p hp => let ⟨ob, h1, h2⟩ := o.cells p hp; ⟨ob, k.keep _ _ h1 (fun q => nomatch q), h2.mono st⟩, o.sys⟩
theorem Ow.stp {c : Cx} {own : List Addr} {σ : St} {h : Heap} (o : Ow c own σ h) {own' : List Addr} {h' : Heap} {x' : List Addr} (a : Stp (adr σ) own h x' own' h') : (hideAll h own).StaysIn (hideAll h' own') := a.stays o.sub

/-- how much room is left for calls -/
structure Ar (n : Nat) (A : Around) : Prop where
  handled : A.handled = none
  depth : A.depth + 3 * n ≤ 600
  units : A.units + 100 * n ≤ 9000

end Mine
end

section
open PySem PySem.W PyProof.Rows PySem.Calls PySem.Spec
set_option maxRecDepth 100000
namespace Mine

structure EnvOk (env : Env) : Prop where
  kind : env.scope.kind = .function
  glob : env.globals = mainGlobals
  bns : env.builtins = builtinsNs

noncomputable abbrev Gm := List (Str × V)

/-- the places that a frame writes: its table and its own cells -/
noncomputable def frA (env : Env) : List Addr := env.locals :: (env.cells.filter fun p => env.kindOf p.1 == some .cell).map (·.2)

noncomputable def VarIs (c : Cx) (env : Env) (own : List Addr) (h : Heap) (m : Str → Option Value) (x : Str) (d : V) : Prop :=
  (env.kindOf x = some .local ∧ ∃ v, m x = some v ∧ Rp c.w (hideAll h own) v d) ∨
  ((env.kindOf x = some .cell ∨ env.kindOf x = some .free) ∧ ∃ a v, env.cells.lookup x = some a ∧ h.IsCell a (some v) ∧ Rp c.w (hideAll h own) v d)

structure Bd (c : Cx) (env : Env) (own : List Addr) (Γ : Gm) (σ : St) (h : Heap) : Prop where
  ow : Ow c own σ h
  ok : EnvOk env
  loc : env.locals ∈ own ∧ env.locals ∉ adr σ
  cel : ∀ p ∈ env.cells, p.2 ∈ own ∧ p.2 ∉ adr σ ∧ p.2 ≠ env.locals ∧ ∃ v, h.IsCell p.2 v
  nd : (env.cells.map (·.2)).Nodup
  ns : ∃ m, h.Ns env.locals m ∧ ∀ x d, Γ.lookup x = some d → VarIs c env own h m x d

theorem lookup_mem {α : Type} {x : Str} : ∀ {l : List (Str × α)} {a : α}, l.lookup x = some a → (x, a) ∈ l
  | [], _, e => by cases e
  | (y, b) :: r, a, e => by
    rw [List.lookup_cons] at e
    split at e
    · rename_i q; cases e; rw [beq_iff_eq.mp q]; exact .head _
    · exact .tail _ (lookup_mem e)

/-- a step that leaves the frame's own places alone -/
theorem Bd.step {c : Cx} {env : Env} {own own' : List Addr} {Γ : Gm} {σ σ' : St} {h h' : Heap} (b : Bd c env own Γ σ h) (a : Stp (adr σ) own h (adr σ') own' h') (o : Ow c own' σ' h') : Bd c env own' Γ σ' h' := by
  have st := b.ow.stp a
  have hL : ∀ z, z ∈ own → z ∉ adr σ → z ∉ adr σ' := fun z h1 h2 h3 => (a.xnew z h3).elim h2 fun q => not_new (b.ow.old z h1) q
  refine ⟨o, b.ok, ⟨(a.sub _ b.loc.1).elim id fun q => absurd q b.loc.2, hL _ b.loc.1 b.loc.2⟩, fun p hp => let ⟨c1, c2, c3, v, o, c4, c5⟩ := b.cel p hp; ⟨(a.sub _ c1).elim id fun q => absurd q c2, hL _ c1 c2, c3, v, o, a.kp.keep _ _ c4 c2, c5⟩, b.nd, ?_⟩
  obtain ⟨m, ⟨oL, es, ep, hl, r⟩, hv⟩ := b.ns
  refine ⟨m, ⟨oL, es, ep, a.kp.keep _ _ hl b.loc.2, r⟩, fun x d e => ?_⟩
  rcases hv x d e with ⟨k, v, h1, h2⟩ | ⟨k, ad, v, h1, ⟨oc, h2, h3⟩, h4⟩
  · exact .inl ⟨k, v, h1, h2.mono st⟩
  · exact .inr ⟨k, ad, v, h1, ⟨oc, a.kp.keep _ _ h2 (b.cel _ (lookup_mem h1)).2.1, h3⟩, h4.mono st⟩

/-- what is handed on behind an expression -/
noncomputable abbrev Kt (c : Cx) (own : List Addr) (σ : St) (s : Shared) (Φ : V → St → Prop) (Q : Value → Shared → Prop) : Prop :=
  ∀ v d (σ' : St) own' h' tk', Φ d σ' → Ow c own' σ' h' → Stp (adr σ) own s.heap (adr σ') own' h' → Rp c.w (hideAll h' own') v d → Q v { s with heap := h', toks := tk' }

structure EV (c : Cx) (env : Env) (n : Nat) (Γ : Gm) (σ : St) (t : Sem Value) (Φ : V → St → Prop) : Prop where
  run : ∀ (A : Around) (own : List Addr) (s : Shared) (Q E : Value → Shared → Prop), Ar n A → Bd c env own Γ σ s.heap → Kt c own σ s Φ Q → wpAny c.M A t Q E s

structure LV (c : Cx) (env : Env) (n : Nat) (Γ : Gm) (σ : St) (t : Sem (List Value)) (Φ : List V → St → Prop) : Prop where
  run : ∀ (A : Around) (own : List Addr) (s : Shared) (Q : List Value → Shared → Prop) (E : Value → Shared → Prop), Ar n A → Bd c env own Γ σ s.heap →
    (∀ vs ds (σ' : St) own' h' tk', Φ ds σ' → Ow c own' σ' h' → Stp (adr σ) own s.heap (adr σ') own' h' → Rps c.w (hideAll h' own') vs ds → Q vs { s with heap := h', toks := tk' }) → wpAny c.M A t Q E s

/-- a test -/
structure TV (c : Cx) (env : Env) (n : Nat) (Γ : Gm) (σ : St) (t : Sem Bool) (Φ : Bool → St → Prop) : Prop where
  run : ∀ (A : Around) (own : List Addr) (s : Shared) (Q : Bool → Shared → Prop) (E : Value → Shared → Prop), Ar n A → Bd c env own Γ σ s.heap →
    (∀ b (σ' : St) own' h' tk', Φ b σ' → Ow c own' σ' h' → Stp (adr σ) own s.heap (adr σ') own' h' → Q b { s with heap := h', toks := tk' }) → wpAny c.M A t Q E s

/-- a call of a value -/
structure CV (c : Cx) (n : Nat) (f : Value) (ds : List V) (σ : St) (Φ : V → St → Prop) : Prop where
  run : ∀ (A : Around) (own : List Addr) (s : Shared) (vs : List Value) (Q E : Value → Shared → Prop), Ar n A → Ow c own σ s.heap → Rps c.w (hideAll s.heap own) vs ds → Kt c own σ s Φ Q → wpAny c.M A (call f vs) Q E s

/-- the same of the code of a call -/
structure FC (c : Cx) (n : Nat) (f : Value) (ds : List V) (σ : St) (Φ : V → St → Prop) : Prop where
  run : ∀ (A : Around) (own : List Addr) (s : Shared) (vs : List Value) (R : Result → Shared → Prop), Ar n A → Ow c own σ s.heap → Rps c.w (hideAll s.heap own) vs ds → Kt c own σ s Φ (fun v s' => R (.ok (.ret v)) s') → codeAny c.M A (.call f ⟨vs, []⟩) R s
theorem FC.cv {c : Cx} {n : Nat} {f : Value} {ds : List V} {σ : St} {Φ : V → St → Prop} (h : FC c n f ds σ Φ) : CV c n f ds σ Φ :=
  ⟨fun A own s vs Q E ar ow r k => wpAny_call (h.run A own s vs _ ar ow r k)⟩

inductive Fl where
  | next | brk | cont | ret (d : V)
inductive FlIs (w : World) (h : Heap) : Flow → Fl → Prop
  | next : FlIs w h .next .next
  | brk : FlIs w h .brk .brk
  | cont : FlIs w h .cont .cont
  | ret {v : Value} {d : V} : Rp w h v d → FlIs w h (.ret v) (.ret d)

noncomputable abbrev KtX (c : Cx) (env : Env) (own : List Addr) (σ : St) (s : Shared) (Ψ : Fl → Gm → St → Prop) (Q : Flow → Shared → Prop) : Prop :=
  ∀ f fl Γ' (σ' : St) own' h' tk', Ψ fl Γ' σ' → Bd c env own' Γ' σ' h' → Stp (frA env ++ adr σ) own s.heap (frA env ++ adr σ') own' h' → FlIs c.w (hideAll h' own') f fl → Q f { s with heap := h', toks := tk' }

structure XV (c : Cx) (env : Env) (n : Nat) (Γ : Gm) (σ : St) (t : Sem Flow) (Ψ : Fl → Gm → St → Prop) : Prop where
  run : ∀ (A : Around) (own : List Addr) (s : Shared) (Q : Flow → Shared → Prop) (E : Value → Shared → Prop), Ar n A → Bd c env own Γ σ s.heap → KtX c env own σ s Ψ Q → wpAny c.M A t Q E s

section
variable {c : Cx} {env : Env} {n : Nat} {Γ : Gm} {σ : St} {Φ Φ' : V → St → Prop} {Ψ Ψ' : Fl → Gm → St → Prop}

theorem EV.mono {t : Sem Value} (x : EV c env n Γ σ t Φ) (hm : ∀ d σ', Φ d σ' → Φ' d σ') : EV c env n Γ σ t Φ' :=
  ⟨fun A own s Q E ar bd k => x.run A own s Q E ar bd fun v d σ' own' h' tk' p => k v d σ' own' h' tk' (hm _ _ p)⟩
theorem LV.mono {t : Sem (List Value)} {Φ Φ' : List V → St → Prop} (x : LV c env n Γ σ t Φ) (hm : ∀ d σ', Φ d σ' → Φ' d σ') : LV c env n Γ σ t Φ' :=
  ⟨fun A own s Q E ar bd k => x.run A own s Q E ar bd fun v d σ' own' h' tk' p => k v d σ' own' h' tk' (hm _ _ p)⟩
theorem TV.mono {t : Sem Bool} {Φ Φ' : Bool → St → Prop} (x : TV c env n Γ σ t Φ) (hm : ∀ d σ', Φ d σ' → Φ' d σ') : TV c env n Γ σ t Φ' :=
  ⟨fun A own s Q E ar bd k => x.run A own s Q E ar bd fun b σ' own' h' tk' p => k b σ' own' h' tk' (hm _ _ p)⟩
theorem XV.mono {t : Sem Flow} (x : XV c env n Γ σ t Ψ) (hm : ∀ f Γ' σ', Ψ f Γ' σ' → Ψ' f Γ' σ') : XV c env n Γ σ t Ψ' :=
  ⟨fun A own s Q E ar bd k => x.run A own s Q E ar bd fun f fl Γ' σ' own' h' tk' p => k f fl Γ' σ' own' h' tk' (hm _ _ _ p)⟩

/-- a name of the frame -/
theorem ev_var {x : Str} {pos : Pos} {d : V} (e : Γ.lookup x = some d) (p : Φ d σ) (hd : (x == ("__debug__" : Str)) = false := by decide) (hn : (x == ("__classdict__" : Str)) = false := by decide) : EV c env n Γ σ (eval (.Name x pos) env) Φ := by
  refine ⟨fun A own s Q E ar bd k => ?_⟩
  obtain ⟨m, hns, hv⟩ := bd.ns
  rcases hv x d e with ⟨hk, v, h1, h2⟩ | ⟨hk | hk, ad, v, h1, h3, h4⟩
  · exact wpAny_Name (wpAny_loadName_local bd.ok.kind hk hns h1 (k v d σ own s.heap s.toks p bd.ow (.refl _ _ _) h2)) hd
  · exact wpAny_Name (wpAny_loadName_cell bd.ok.kind hk h1 h3 (k v d σ own s.heap s.toks p bd.ow (.refl _ _ _) h4)) hd
  · exact wpAny_Name (wpAny_loadName_free bd.ok.kind hk h1 h3 (k v d σ own s.heap s.toks p bd.ow (.refl _ _ _) h4) hn) hd

theorem glob_any {x : Str} {v : Value} {A : Around} {own : List Addr} {s : Shared} {pos : Pos} {Q E : Value → Shared → Prop} (bd : Bd c env own Γ σ s.heap) (e : nsIn (HpK c.w.params) mainGlobals x = some (some v)) (hk : env.kindOf x = some .globalImplicit) (hd : (x == ("__debug__" : Str)) = false)
    (h : Q v s) : wpAny c.M A (eval (.Name x pos) env) Q E s := by
  refine Name_function_global bd.ok.kind hk (loadGlobal_global (mg := c.mg) ?_ (mg_of c.KIn c.g e) h) hd
  rw [bd.ok.glob]; exact c.g.keeps bd.ow.stays

/-- a name of the module, as it stands there -/
theorem ev_glob {x : Str} {pos : Pos} {v : Value} (e : nsIn (HpK c.w.params) mainGlobals x = some (some v)) (hk : env.kindOf x = some .globalImplicit) (p : Φ (.obj v) σ) (hv : handedIn v = true := by rfl) (hd : (x == ("__debug__" : Str)) = false := by decide) : EV c env n Γ σ (eval (.Name x pos) env) Φ := by
  refine ⟨fun A own s Q E ar bd k => ?_⟩
  exact glob_any bd e hk hd (k v _ σ own s.heap s.toks p bd.ow (.refl _ _ _) (.obj hv))
/-- a name of the module that stands for a datum -/
theorem ev_globD {x : Str} {pos : Pos} {v : Value} {d : V} (e : nsIn (HpK c.w.params) mainGlobals x = some (some v)) (hk : env.kindOf x = some .globalImplicit) (r : ∀ h : Heap, c.K.In h → Rp c.w h v d) (p : Φ d σ) (hd : (x == ("__debug__" : Str)) = false := by decide) : EV c env n Γ σ (eval (.Name x pos) env) Φ := by
  refine ⟨fun A own s Q E ar bd k => ?_⟩
  exact glob_any bd e hk hd (k v _ σ own s.heap s.toks p bd.ow (.refl _ _ _) (r _ (c.KIn.keeps bd.ow.top)))
theorem bi_any {x : Str} {v : Value} {A : Around} {own : List Addr} {s : Shared} {pos : Pos} {Q E : Value → Shared → Prop} (bd : Bd c env own Γ σ s.heap) (e : nsIn (HpK c.w.params) mainGlobals x = some none) (hv : bootBuiltins x = some v) (hk : env.kindOf x = some .globalImplicit) (hn : x ≠ "__name__") (hd : (x == ("__debug__" : Str)) = false)
    (h : Q v s) : wpAny c.M A (eval (.Name x pos) env) Q E s := by
  refine Name_function_global bd.ok.kind hk (loadGlobal_builtin (mg := c.mg) (mb := c.mb) ?_ (mg_none_of c.KIn c.g e) ?_ ((c.bt x hn).trans hv) h) hd
  · rw [bd.ok.glob]; exact c.g.keeps bd.ow.stays
  · rw [bd.ok.bns]; exact c.b.keeps bd.ow.stays
/-- a built-in name -/
theorem ev_bi {x : Str} {pos : Pos} {v : Value} (e : nsIn (HpK c.w.params) mainGlobals x = some none) (hv : bootBuiltins x = some v) (hk : env.kindOf x = some .globalImplicit) (p : Φ (.obj v) σ) (hh : handedIn v = true := by rfl) (hn : x ≠ "__name__" := by decide) (hd : (x == ("__debug__" : Str)) = false := by decide) : EV c env n Γ σ (eval (.Name x pos) env) Φ := by
  refine ⟨fun A own s Q E ar bd k => ?_⟩
  exact bi_any bd e hv hk hn hd (k v _ σ own s.heap s.toks p bd.ow (.refl _ _ _) (.obj hh))

theorem ev_none {k : Nat} {pos : Pos} (p : Φ .none σ) : EV c env n Γ σ (eval (.Constant .none k pos) env) Φ := by
  refine ⟨fun A own s Q E ar bd kt => ?_⟩
  exact wpAny_pure (kt _ _ σ own s.heap s.toks p bd.ow (.refl _ _ _) .none)
theorem ev_true {b : Bool} {k : Nat} {pos : Pos} (p : Φ (.bool b) σ) : EV c env n Γ σ (eval (.Constant (.bool b) k pos) env) Φ := by
  refine ⟨fun A own s Q E ar bd kt => ?_⟩
  exact wpAny_pure (kt _ _ σ own s.heap s.toks p bd.ow (.refl _ _ _) (.bool b))
theorem ev_int {i : Int} {k : Nat} {pos : Pos} (p : Φ (.int i) σ) : EV c env n Γ σ (eval (.Constant (.int i) k pos) env) Φ := by
  refine ⟨fun A own s Q E ar bd kt => ?_⟩
  exact wpAny_mkInt (kt _ _ σ own s.heap _ p bd.ow (.refl _ _ _) (.int i _))
theorem ev_str {x : Str} {k : Nat} {pos : Pos} (p : Φ (.str x) σ) : EV c env n Γ σ (eval (.Constant (.str x) k pos) env) Φ := by
  refine ⟨fun A own s Q E ar bd kt => ?_⟩
  exact wpAny_mkText (kt _ _ σ own s.heap _ p bd.ow (.refl _ _ _) (.str x _))
theorem ev_bytes {x : List UInt8} {k : Nat} {pos : Pos} (p : Φ (.bytes x) σ) : EV c env n Γ σ (eval (.Constant (.bytes x) k pos) env) Φ := by
  refine ⟨fun A own s Q E ar bd kt => ?_⟩
  exact wpAny_mkTextBytes (kt _ _ σ own s.heap _ p bd.ow (.refl _ _ _) (.bytes x _))

/-- the parts of a display, the arguments of a call -/
theorem lv_nil {pos : Pos} {Φ : List V → St → Prop} (p : Φ [] σ) : LV c env n Γ σ (spliced (backTo pos (starEach [] env))) Φ := by
  refine ⟨fun A own s Q E ar bd k => ?_⟩
  exact spliced_none (k [] [] σ own s.heap s.toks p bd.ow (.refl _ _ _) .nil)
theorem lv_cons {e : Expr} {rest : List Expr} {pos : Pos} {Φ : List V → St → Prop} (h : EV c env n Γ σ (eval e env) fun d σ₁ => LV c env n Γ σ₁ (spliced (backTo pos (starEach rest env))) fun ds σ₂ => Φ (d :: ds) σ₂)
    (he : starEach (e :: rest) env = (false, eval e env) :: starEach rest env := by rfl) : LV c env n Γ σ (spliced (backTo pos (starEach (e :: rest) env))) Φ := by
  refine ⟨fun A own s Q E ar bd k => ?_⟩
  refine spliced_more (h.run A own s _ E ar bd fun v d σ₁ own₁ h₁ tk₁ p ow₁ st₁ r₁ => ?_) he
  refine p.run A own₁ _ _ E ar (bd.step st₁ ow₁) fun vs ds σ₂ own₂ h₂ tk₂ p₂ ow₂ st₂ r₂ => ?_
  exact k (v :: vs) (d :: ds) σ₂ own₂ h₂ tk₂ p₂ ow₂ (st₁.trans st₂ bd.ow.old) (.cons (r₁.mono (ow₁.stp st₂)) r₂)

/-- a new object, frozen at once -/
theorem Ow.push {own : List Addr} {h : Heap} (o : Ow c own σ h) (ob : Obj) : Ow c own σ (h.push ob) := o.quiet (Kp.push [] h ob)
theorem hide_new {own : List Addr} {h : Heap} (o : Ow c own σ h) {ob : Obj} (hf : ob.isFreed = false) : (hideAll (h.push ob) own).get? h.objs.size = some ob :=
  hideAll_get own (Heap.get?_push_size h hf) fun q => not_new (o.old _ q) (new_ge (Nat.le_refl _))

theorem ev_tup {es : List Expr} {k : Nat} {pos : Pos} (h : LV c env n Γ σ (spliced (backTo pos (starEach es env))) fun ds σ₁ => ds.length ≤ sizeLine ∧ Φ (.tup ds) σ₁) : EV c env n Γ σ (eval (.Tuple es k pos) env) Φ := by
  refine ⟨fun A own s Q E ar bd kt => ?_⟩
  refine Tuple_ (h.run A own s _ E ar bd fun vs ds σ₁ own₁ h₁ tk₁ p ow₁ st₁ r₁ => ?_)
  refine wpAny_newTuple ?_ (r₁.length ▸ p.1)
  exact kt _ _ σ₁ own₁ _ _ p.2 (ow₁.push _) (st₁.trans (.quiet (Kp.push [] h₁ _)) bd.ow.old) (.tup (hide_new ow₁ rfl) (r₁.mono (ow₁.stp (x' := adr σ₁) (.quiet (Kp.push [] h₁ _)))))
theorem ev_list {es : List Expr} {pos : Pos} (h : LV c env n Γ σ (spliced (backTo pos (starEach es env))) fun ds σ₁ => ds.length ≤ sizeLine ∧ Φ (.list ds) σ₁) : EV c env n Γ σ (eval (.List es pos) env) Φ := by
  refine ⟨fun A own s Q E ar bd kt => ?_⟩
  refine List_ (h.run A own s _ E ar bd fun vs ds σ₁ own₁ h₁ tk₁ p ow₁ st₁ r₁ => ?_)
  refine wpAny_newList ?_ (r₁.length ▸ p.1)
  exact kt _ _ σ₁ own₁ _ _ p.2 (ow₁.push _) (st₁.trans (.quiet (Kp.push [] h₁ _)) bd.ow.old) (.list (hide_new ow₁ rfl) (r₁.mono (ow₁.stp (x' := adr σ₁) (.quiet (Kp.push [] h₁ _)))))

/-- a new object as a mutable cell -/
theorem Ow.newCell {own : List Addr} {h : Heap} (o : Ow c own σ h) {ob : Obj} {m : MO} (hm : MoIs c.w (hideAll h own) ob m) (hf : ob.isFreed = false) : Ow c (h.objs.size :: own) (σ ++ [(h.objs.size, m)]) (h.push ob) := by
  have st : (hideAll h own).StaysIn (hideAll (h.push ob) (h.objs.size :: own)) := hide_stays (Kp.push [] h ob) (fun _ q => (nomatch q)) fun z q => by
    cases q with
    | head => exact .inr (new_ge (Nat.le_refl _))
    | tail _ q => exact .inl q
  have hn : h.objs.size ∉ adr σ := fun q => not_new (o.old _ (o.sub _ q)) (new_ge (Nat.le_refl _))
  refine ⟨fun b x e => st b x (o.top b x e), fun a q => ?_, ?_, fun a q => ?_, fun p hp => ?_, fun q => ?_⟩
  · rw [adr, List.map_append] at q
    rcases List.mem_append.mp q with q | q
    · exact .tail _ (o.sub a q)
    · simp at q; subst q; exact .head _
  · rw [adr, List.map_append]
    refine List.nodup_append.mpr ⟨o.nd, by simp, fun a h1 b h2 => ?_⟩
    simp at h2; subst h2
    exact fun e => hn (e ▸ h1)
  · cases q with
    | head => exact ⟨_, Heap.get?_push_size h hf⟩
    | tail _ q => exact (Kp.push [] h ob).live (o.old a q)
  · rcases List.mem_append.mp hp with q | q
    · obtain ⟨ob', h1, h2⟩ := o.cells p q
      exact ⟨ob', Heap.get?_push_of_some _ h1, h2.mono st⟩
    · simp at q; subst q
      exact ⟨ob, Heap.get?_push_size h hf, hm.mono st⟩
  · rw [adr, List.map_append] at q
    rcases List.mem_append.mp q with q | q
    · exact o.sys q
    · simp at q; exact absurd q.symm (beq_eq_false_iff_ne.mp o.newSys)
theorem Stp.newCell {own : List Addr} {h : Heap} {ob : Obj} {m : MO} : Stp (adr σ) own h (adr (σ ++ [(h.objs.size, m)])) (h.objs.size :: own) (h.push ob) where
  kp := Kp.push _ h ob
  sub := fun _ q => .inl (.tail _ q)
  new := fun z q => by
    cases q with
    | head => exact .inr (.inr (new_ge (Nat.le_refl _)))
    | tail _ q => exact .inl q
  xnew := fun z q => by
    rw [adr, List.map_append] at q
    rcases List.mem_append.mp q with q | q
    · exact .inl q
    · simp at q; subst q; exact .inr (new_ge (Nat.le_refl _))
theorem ev_listC {es : List Expr} {pos : Pos} (h : LV c env n Γ σ (spliced (backTo pos (starEach es env))) fun ds σ₁ => ds.length ≤ sizeLine ∧ ∀ a, Φ (.cell a) (σ₁ ++ [(a, .list ds)])) : EV c env n Γ σ (eval (.List es pos) env) Φ := by
  refine ⟨fun A own s Q E ar bd kt => ?_⟩
  refine List_ (h.run A own s _ E ar bd fun vs ds σ₁ own₁ h₁ tk₁ p ow₁ st₁ r₁ => ?_)
  refine wpAny_newList ?_ (r₁.length ▸ p.1)
  exact kt _ _ _ _ _ _ (p.2 _) (ow₁.newCell (.list r₁) rfl) (st₁.trans .newCell bd.ow.old) (.cell _)
end
end Mine
end

section
open PySem PySem.W PyProof.Rows PySem.Calls PySem.Spec
set_option maxRecDepth 100000
namespace Mine

/-- an operation on one value, on two -/
structure P1 (c : Cx) (n : Nat) (d : V) (σ : St) (t : Value → Sem Value) (Φ : V → St → Prop) : Prop where
  run : ∀ (A : Around) (own : List Addr) (s : Shared) (v : Value) (Q E : Value → Shared → Prop), Ar n A → Ow c own σ s.heap → Rp c.w (hideAll s.heap own) v d → Kt c own σ s Φ Q → wpAny c.M A (t v) Q E s
structure P2 (c : Cx) (n : Nat) (da db : V) (σ : St) (t : Value → Value → Sem Value) (Φ : V → St → Prop) : Prop where
  run : ∀ (A : Around) (own : List Addr) (s : Shared) (u v : Value) (Q E : Value → Shared → Prop), Ar n A → Ow c own σ s.heap → Rp c.w (hideAll s.heap own) u da → Rp c.w (hideAll s.heap own) v db → Kt c own σ s Φ Q → wpAny c.M A (t u v) Q E s
/-- the truth of a value -/
structure T1 (c : Cx) (n : Nat) (d : V) (σ : St) (Φ : Bool → St → Prop) : Prop where
  run : ∀ (A : Around) (own : List Addr) (s : Shared) (v : Value) (Q : Bool → Shared → Prop) (E : Value → Shared → Prop), Ar n A → Ow c own σ s.heap → Rp c.w (hideAll s.heap own) v d →
    (∀ b (σ' : St) own' h' tk', Φ b σ' → Ow c own' σ' h' → Stp (adr σ) own s.heap (adr σ') own' h' → Q b { s with heap := h', toks := tk' }) → wpAny c.M A (truthy v) Q E s
/-- a store: o[i] = v and the like -/
structure S3 (c : Cx) (n : Nat) (dv db dk : V) (σ : St) (t : Value → Value → Value → Sem Unit) (Φ : St → Prop) : Prop where
  run : ∀ (A : Around) (own : List Addr) (s : Shared) (x o i : Value) (Q : Unit → Shared → Prop) (E : Value → Shared → Prop), Ar n A → Ow c own σ s.heap → Rp c.w (hideAll s.heap own) x dv → Rp c.w (hideAll s.heap own) o db → Rp c.w (hideAll s.heap own) i dk →
    (∀ (σ' : St) own' h' tk', Φ σ' → Ow c own' σ' h' → Stp (adr σ) own s.heap (adr σ') own' h' → Q () { s with heap := h', toks := tk' }) → wpAny c.M A (t x o i) Q E s

section
variable {c : Cx} {env : Env} {n : Nat} {Γ : Gm} {σ : St} {Φ : V → St → Prop} {Ψ : Fl → Gm → St → Prop}

theorem EV.bind1 {t : Sem Value} {f : Value → Sem Value} (h : EV c env n Γ σ t fun d σ₁ => P1 c n d σ₁ f Φ) {A : Around} {own : List Addr} {s : Shared} {Q E : Value → Shared → Prop} (ar : Ar n A) (bd : Bd c env own Γ σ s.heap) (k : Kt c own σ s Φ Q) :
    wpAny c.M A t (fun v s₁ => wpAny c.M A (f v) Q E s₁) E s := by
  refine h.run A own s _ E ar bd fun v d σ₁ own₁ h₁ tk₁ p ow₁ st₁ r₁ => ?_
  exact p.run A own₁ _ v Q E ar ow₁ r₁ fun v' d' σ₂ own₂ h₂ tk₂ p₂ ow₂ st₂ r₂ => k v' d' σ₂ own₂ h₂ tk₂ p₂ ow₂ (st₁.trans st₂ bd.ow.old) r₂
theorem EV.bind2 {t₁ t₂ : Sem Value} {f : Value → Value → Sem Value} (h : EV c env n Γ σ t₁ fun da σ₁ => EV c env n Γ σ₁ t₂ fun db σ₂ => P2 c n da db σ₂ f Φ) {A : Around} {own : List Addr} {s : Shared} {Q E : Value → Shared → Prop} (ar : Ar n A) (bd : Bd c env own Γ σ s.heap) (k : Kt c own σ s Φ Q) :
    wpAny c.M A t₁ (fun a s₁ => wpAny c.M A t₂ (fun b s₂ => wpAny c.M A (f a b) Q E s₂) E s₁) E s := by
  refine h.run A own s _ E ar bd fun v d σ₁ own₁ h₁ tk₁ p ow₁ st₁ r₁ => ?_
  refine p.run A own₁ _ _ E ar (bd.step st₁ ow₁) fun v' d' σ₂ own₂ h₂ tk₂ p₂ ow₂ st₂ r₂ => ?_
  exact p₂.run A own₂ _ v v' Q E ar ow₂ (r₁.mono (ow₁.stp st₂)) r₂ fun v₃ d₃ σ₃ own₃ h₃ tk₃ p₃ ow₃ st₃ r₃ => k v₃ d₃ σ₃ own₃ h₃ tk₃ p₃ ow₃ ((st₁.trans st₂ bd.ow.old).trans st₃ bd.ow.old) r₃
theorem EV.bindT {t : Sem Value} {Φ : Bool → St → Prop} (h : EV c env n Γ σ t fun d σ₁ => T1 c n d σ₁ Φ) {A : Around} {own : List Addr} {s : Shared} {Q : Bool → Shared → Prop} {E : Value → Shared → Prop} (ar : Ar n A) (bd : Bd c env own Γ σ s.heap)
    (k : ∀ b (σ' : St) own' h' tk', Φ b σ' → Ow c own' σ' h' → Stp (adr σ) own s.heap (adr σ') own' h' → Q b { s with heap := h', toks := tk' }) :
    wpAny c.M A t (fun v s₁ => wpAny c.M A (truthy v) Q E s₁) E s := by
  refine h.run A own s _ E ar bd fun v d σ₁ own₁ h₁ tk₁ p ow₁ st₁ r₁ => ?_
  exact p.run A own₁ _ v Q E ar ow₁ r₁ fun v' σ₂ own₂ h₂ tk₂ p₂ ow₂ st₂ => k v' σ₂ own₂ h₂ tk₂ p₂ ow₂ (st₁.trans st₂ bd.ow.old)

theorem ev_binop {l r : Expr} {op : Operator} {pos : Pos} (h : EV c env n Γ σ (eval l env) fun da σ₁ => EV c env n Γ σ₁ (eval r env) fun db σ₂ => P2 c n da db σ₂ (binaryOp op) Φ) : EV c env n Γ σ (eval (.BinOp l op r pos) env) Φ :=
  ⟨fun A own s Q E ar bd k => wpAny_BinOp (EV.bind2 h ar bd k)⟩
theorem ev_cmp {l r : Expr} {op : CmpOp} {pos : Pos} (h : EV c env n Γ σ (eval l env) fun da σ₁ => EV c env n Γ σ₁ (eval r env) fun db σ₂ => P2 c n da db σ₂ (compareOp op) Φ) (hm : behindInMarks op r = false := by with_unfolding_all rfl) : EV c env n Γ σ (eval (.Compare l [op] [r] pos) env) Φ :=
  ⟨fun A own s Q E ar bd k => wpAny_Compare1 (EV.bind2 h ar bd k) hm⟩
theorem ev_unop {x : Expr} {op : UnaryOp} {pos : Pos} (h : EV c env n Γ σ (eval x env) fun d σ₁ => P1 c n d σ₁ (unaryOp op) Φ) : EV c env n Γ σ (eval (.UnaryOp op x pos) env) Φ :=
  ⟨fun A own s Q E ar bd k => wpAny_UnaryOp (EV.bind1 h ar bd k)⟩
theorem ev_sub {value slice : Expr} {pos : Pos} (h : EV c env n Γ σ (eval value env) fun da σ₁ => EV c env n Γ σ₁ (eval slice env) fun db σ₂ => P2 c n da db σ₂ (subscriptTail value slice) Φ) : EV c env n Γ σ (eval (.Subscript value slice pos) env) Φ :=
  ⟨fun A own s Q E ar bd k => Subscript_ (EV.bind2 h ar bd k)⟩
theorem ev_attr {value : Expr} {attr : Str} {pos : Pos} (h : EV c env n Γ σ (eval value env) fun d σ₁ => P1 c n d σ₁ (fun o => getAttr o attr true) Φ)
    (he : eval (.Attribute value attr pos) env = (do
      let o ← eval value env
      standAt pos.atName
      let r ← holding [o] (getAttr o attr true)
      letTemporaryGo value o r
      pure r) := by with_unfolding_all rfl) : EV c env n Γ σ (eval (.Attribute value attr pos) env) Φ :=
  ⟨fun A own s Q E ar bd k => Attribute_any_ (EV.bind1 h ar bd k) he⟩
theorem ev_ifexp {test body orelse : Expr} {pos : Pos} (h : TV c env n Γ σ (isTrue test env (eval test env)) fun b σ₁ => if b then EV c env n Γ σ₁ (eval body env) Φ else EV c env n Γ σ₁ (eval orelse env) Φ) : EV c env n Γ σ (eval (.IfExp test body orelse pos) env) Φ := by
  refine ⟨fun A own s Q E ar bd k => ?_⟩
  refine wpAny_IfExp (h.run A own s _ E ar bd fun b σ₁ own₁ h₁ tk₁ p ow₁ st₁ => ?_)
  cases b with
  | true => exact p.run A own₁ _ Q E ar (bd.step st₁ ow₁) fun v d σ₂ own₂ h₂ tk₂ p₂ ow₂ st₂ r₂ => k v d σ₂ own₂ h₂ tk₂ p₂ ow₂ (st₁.trans st₂ bd.ow.old) r₂
  | false => exact p.run A own₁ _ Q E ar (bd.step st₁ ow₁) fun v d σ₂ own₂ h₂ tk₂ p₂ ow₂ st₂ r₂ => k v d σ₂ own₂ h₂ tk₂ p₂ ow₂ (st₁.trans st₂ bd.ow.old) r₂

/-- tests -/
theorem tv_cmp {l r : Expr} {op : CmpOp} {pos : Pos} {whole : Sem Value} {Φ : Bool → St → Prop} (h : EV c env n Γ σ (eval l env) fun da σ₁ => EV c env n Γ σ₁ (eval r env) fun db σ₂ => P2 c n da db σ₂ (compareOp op) fun d σ₃ => ∃ b, d = .bool b ∧ Φ b σ₃) (hm : behindInMarks op r = false := by with_unfolding_all rfl) :
    TV c env n Γ σ (isTrue (.Compare l [op] [r] pos) env whole) Φ := by
  refine ⟨fun A own s Q E ar bd k => ?_⟩
  refine wpAny_isTrue_Compare1 (EV.bind2 h ar bd ?_) hm
  rintro v d σ' own' h' tk' ⟨b, rfl, p⟩ ow st r
  (first | obtain rfl := r.inv | obtain ⟨_, rfl⟩ := r.inv | cases r)
  exact wpAny_truthy_bool (k b σ' own' h' tk' p ow st)
theorem tv_plain {e : Expr} {whole : Sem Value} {Φ : Bool → St → Prop} (h : EV c env n Γ σ whole fun d σ₁ => T1 c n d σ₁ Φ)
    (he : isTrue e env whole = (do let v ← whole; standAt e.pos; holding [v] (truthy v)) := by rfl) : TV c env n Γ σ (isTrue e env whole) Φ :=
  ⟨fun A own s Q E ar bd k => isTrue_plain (EV.bindT h ar bd k) he⟩
theorem tv_not {x : Expr} {pos : Pos} {whole : Sem Value} {Φ : Bool → St → Prop} (h : TV c env n Γ σ (isTrue x env (eval x env)) fun b σ₁ => Φ (!b) σ₁) : TV c env n Γ σ (isTrue (.UnaryOp .Not x pos) env whole) Φ :=
  ⟨fun A own s Q E ar bd k => isTrue_not (h.run A own s _ E ar bd fun b σ' own' h' tk' p ow st => k _ σ' own' h' tk' p ow st)⟩
theorem tv_and_nil {pos : Pos} {whole : Sem Value} {Φ : Bool → St → Prop} (p : Φ true σ) : TV c env n Γ σ (isTrue (.BoolOp .And [] pos) env whole) Φ :=
  ⟨fun A own s Q E ar bd k => isTrue_and_nil (k true σ own s.heap s.toks p bd.ow (.refl _ _ _))⟩
theorem tv_or_nil {pos : Pos} {whole : Sem Value} {Φ : Bool → St → Prop} (p : Φ false σ) : TV c env n Γ σ (isTrue (.BoolOp .Or [] pos) env whole) Φ :=
  ⟨fun A own s Q E ar bd k => isTrue_or_nil (k false σ own s.heap s.toks p bd.ow (.refl _ _ _))⟩
theorem tv_and {x : Expr} {rest : List Expr} {pos : Pos} {whole : Sem Value} {Φ : Bool → St → Prop} (h : TV c env n Γ σ (isTrue x env (eval x env)) fun b σ₁ => if b then TV c env n Γ σ₁ (isTrue (.BoolOp .And rest pos) env whole) Φ else Φ false σ₁) :
    TV c env n Γ σ (isTrue (.BoolOp .And (x :: rest) pos) env whole) Φ := by
  refine ⟨fun A own s Q E ar bd k => ?_⟩
  refine isTrue_and (h.run A own s _ E ar bd fun b σ₁ own₁ h₁ tk₁ p ow₁ st₁ => ?_)
  cases b with
  | true => exact p.run A own₁ _ Q E ar (bd.step st₁ ow₁) fun b σ₂ own₂ h₂ tk₂ p₂ ow₂ st₂ => k b σ₂ own₂ h₂ tk₂ p₂ ow₂ (st₁.trans st₂ bd.ow.old)
  | false => exact k false σ₁ own₁ h₁ tk₁ p ow₁ st₁
theorem tv_or {x : Expr} {rest : List Expr} {pos : Pos} {whole : Sem Value} {Φ : Bool → St → Prop} (h : TV c env n Γ σ (isTrue x env (eval x env)) fun b σ₁ => if b then Φ true σ₁ else TV c env n Γ σ₁ (isTrue (.BoolOp .Or rest pos) env whole) Φ) :
    TV c env n Γ σ (isTrue (.BoolOp .Or (x :: rest) pos) env whole) Φ := by
  refine ⟨fun A own s Q E ar bd k => ?_⟩
  refine isTrue_or (h.run A own s _ E ar bd fun b σ₁ own₁ h₁ tk₁ p ow₁ st₁ => ?_)
  cases b with
  | true => exact k true σ₁ own₁ h₁ tk₁ p ow₁ st₁
  | false => exact p.run A own₁ _ Q E ar (bd.step st₁ ow₁) fun b σ₂ own₂ h₂ tk₂ p₂ ow₂ st₂ => k b σ₂ own₂ h₂ tk₂ p₂ ow₂ (st₁.trans st₂ bd.ow.old)
theorem t1_bool {b : Bool} {Φ : Bool → St → Prop} (p : Φ b σ) : T1 c n (.bool b) σ Φ := by
  refine ⟨fun A own s v Q E ar ow r k => ?_⟩
  (first | obtain rfl := r.inv | obtain ⟨_, rfl⟩ := r.inv | cases r)
  exact wpAny_truthy_bool (k b σ own s.heap s.toks p ow (.refl _ _ _))

/-- ints -/
theorem p2_add {a b : Int} (p : Φ (.int (a + b)) σ) : P2 c n (.int a) (.int b) σ (binaryOp .Add) Φ := by
  refine ⟨fun A own s u v Q E ar ow ra rb k => ?_⟩
  (first | obtain rfl := ra.inv | obtain ⟨_, rfl⟩ := ra.inv | cases ra); (first | obtain rfl := rb.inv | obtain ⟨_, rfl⟩ := rb.inv | cases rb)
  exact add_int (k _ _ σ own s.heap _ p ow (.refl _ _ _) (.int _ _))
theorem p2_sub {a b : Int} (p : Φ (.int (a - b)) σ) : P2 c n (.int a) (.int b) σ (binaryOp .Sub) Φ := by
  refine ⟨fun A own s u v Q E ar ow ra rb k => ?_⟩
  (first | obtain rfl := ra.inv | obtain ⟨_, rfl⟩ := ra.inv | cases ra); (first | obtain rfl := rb.inv | obtain ⟨_, rfl⟩ := rb.inv | cases rb)
  exact sub_int (k _ _ σ own s.heap _ p ow (.refl _ _ _) (.int _ _))
theorem p2_mul {a b : Int} (hm : IntMulOk a b) (p : Φ (.int (a * b)) σ) : P2 c n (.int a) (.int b) σ (binaryOp .Mult) Φ := by
  refine ⟨fun A own s u v Q E ar ow ra rb k => ?_⟩
  (first | obtain rfl := ra.inv | obtain ⟨_, rfl⟩ := ra.inv | cases ra); (first | obtain rfl := rb.inv | obtain ⟨_, rfl⟩ := rb.inv | cases rb)
  exact mul_int (k _ _ σ own s.heap _ p ow (.refl _ _ _) (.int _ _)) hm
theorem p2_mod {a b : Int} (hb : b ≠ 0) (p : Φ (.int (a.fmod b)) σ) : P2 c n (.int a) (.int b) σ (binaryOp .Mod) Φ := by
  refine ⟨fun A own s u v Q E ar ow ra rb k => ?_⟩
  (first | obtain rfl := ra.inv | obtain ⟨_, rfl⟩ := ra.inv | cases ra); (first | obtain rfl := rb.inv | obtain ⟨_, rfl⟩ := rb.inv | cases rb)
  exact mod_int' hb (k _ _ σ own s.heap _ p ow (.refl _ _ _) (.int _ _))
theorem p2_div {a b : Int} (hb : b ≠ 0) (hs : b.natAbs < 1073741824) (p : Φ (.int (a.fdiv b)) σ) : P2 c n (.int a) (.int b) σ (binaryOp .FloorDiv) Φ := by
  refine ⟨fun A own s u v Q E ar ow ra rb k => ?_⟩
  (first | obtain rfl := ra.inv | obtain ⟨_, rfl⟩ := ra.inv | cases ra); (first | obtain rfl := rb.inv | obtain ⟨_, rfl⟩ := rb.inv | cases rb)
  exact floordiv_int hb (k _ _ σ own s.heap _ p ow (.refl _ _ _) (.int _ _)) (.inl (PyProof.noPylong_small hs))
theorem p2_lt {a b : Int} (p : Φ (.bool (decide (a < b))) σ) : P2 c n (.int a) (.int b) σ (compareOp .Lt) Φ := by
  refine ⟨fun A own s u v Q E ar ow ra rb k => ?_⟩
  (first | obtain rfl := ra.inv | obtain ⟨_, rfl⟩ := ra.inv | cases ra); (first | obtain rfl := rb.inv | obtain ⟨_, rfl⟩ := rb.inv | cases rb)
  exact lt_int (k _ _ σ own s.heap _ p ow (.refl _ _ _) (.bool _))
theorem p2_gt {a b : Int} (p : Φ (.bool (decide (b < a))) σ) : P2 c n (.int a) (.int b) σ (compareOp .Gt) Φ := by
  refine ⟨fun A own s u v Q E ar ow ra rb k => ?_⟩
  (first | obtain rfl := ra.inv | obtain ⟨_, rfl⟩ := ra.inv | cases ra); (first | obtain rfl := rb.inv | obtain ⟨_, rfl⟩ := rb.inv | cases rb)
  exact gt_int (k _ _ σ own s.heap _ p ow (.refl _ _ _) (.bool _))
theorem p2_le {a b : Int} (p : Φ (.bool (decide (a ≤ b))) σ) : P2 c n (.int a) (.int b) σ (compareOp .LtE) Φ := by
  refine ⟨fun A own s u v Q E ar ow ra rb k => ?_⟩
  (first | obtain rfl := ra.inv | obtain ⟨_, rfl⟩ := ra.inv | cases ra); (first | obtain rfl := rb.inv | obtain ⟨_, rfl⟩ := rb.inv | cases rb)
  exact le_int (k _ _ σ own s.heap _ p ow (.refl _ _ _) (.bool _))
theorem p2_eqi {a b : Int} (p : Φ (.bool (a == b)) σ) : P2 c n (.int a) (.int b) σ (compareOp .Eq) Φ := by
  refine ⟨fun A own s u v Q E ar ow ra rb k => ?_⟩
  (first | obtain rfl := ra.inv | obtain ⟨_, rfl⟩ := ra.inv | cases ra); (first | obtain rfl := rb.inv | obtain ⟨_, rfl⟩ := rb.inv | cases rb)
  exact eq_int (k _ _ σ own s.heap _ p ow (.refl _ _ _) (.bool _))
theorem p2_nei {a b : Int} (p : Φ (.bool (a != b)) σ) : P2 c n (.int a) (.int b) σ (compareOp .NotEq) Φ := by
  refine ⟨fun A own s u v Q E ar ow ra rb k => ?_⟩
  (first | obtain rfl := ra.inv | obtain ⟨_, rfl⟩ := ra.inv | cases ra); (first | obtain rfl := rb.inv | obtain ⟨_, rfl⟩ := rb.inv | cases rb)
  exact ne_int (k _ _ σ own s.heap _ p ow (.refl _ _ _) (.bool _))

/-- statements -/
theorem xs_nil (p : Ψ .next Γ σ) : XV c env n Γ σ (execs [] env) Ψ := by
  refine ⟨fun A own s Q E ar bd k => ?_⟩
  exact wpAny_execs_nil (k .next .next Γ σ own s.heap s.toks p bd (.refl _ _ _) .next)
/-- what must hold behind the first of some statements -/
noncomputable abbrev Seq (c : Cx) (env : Env) (n : Nat) (rest : List Stmt) (Ψ : Fl → Gm → St → Prop) (f : Fl) (Γ₁ : Gm) (σ₁ : St) : Prop := match f with | .next => XV c env n Γ₁ σ₁ (execs rest env) Ψ | f => Ψ f Γ₁ σ₁
theorem xs_cons {st : Stmt} {rest : List Stmt} (h : XV c env n Γ σ (exec st env) (Seq c env n rest Ψ)) : XV c env n Γ σ (execs (st :: rest) env) Ψ := by
  refine ⟨fun A own s Q E ar bd k => ?_⟩
  refine wpAny_execs_cons (h.run A own s _ E ar bd fun f fl Γ₁ σ₁ own₁ h₁ tk₁ p bd₁ st₁ r => ?_)
  cases r with
  | next => exact p.run A own₁ _ Q E ar bd₁ fun f' fl' Γ₂ σ₂ own₂ h₂ tk₂ p₂ bd₂ st₂ r₂ => k f' fl' Γ₂ σ₂ own₂ h₂ tk₂ p₂ bd₂ (st₁.trans st₂ bd.ow.old) r₂
  | brk => exact k _ _ Γ₁ σ₁ own₁ h₁ tk₁ p bd₁ st₁ .brk
  | cont => exact k _ _ Γ₁ σ₁ own₁ h₁ tk₁ p bd₁ st₁ .cont
  | ret r => exact k _ _ Γ₁ σ₁ own₁ h₁ tk₁ p bd₁ st₁ (.ret r)
theorem x_ret {e : Expr} {pos : Pos} (h : EV c env n Γ σ (eval e env) fun d σ₁ => Ψ (.ret d) Γ σ₁) : XV c env n Γ σ (exec (.Return (some e) pos) env) Ψ := by
  refine ⟨fun A own s Q E ar bd k => ?_⟩
  exact wpAny_Return_some (h.run A own s _ E ar bd fun v d σ₁ own₁ h₁ tk₁ p ow₁ st₁ r => k _ _ Γ σ₁ own₁ h₁ tk₁ p (bd.step st₁ ow₁) st₁.more (.ret r))
noncomputable abbrev IfP (c : Cx) (env : Env) (n : Nat) (body orelse : List Stmt) (Γ : Gm) (Ψ : Fl → Gm → St → Prop) (b : Bool) (σ₁ : St) : Prop := if b then XV c env n Γ σ₁ (execs body env) Ψ else XV c env n Γ σ₁ (execs orelse env) Ψ
theorem x_if {test : Expr} {body orelse : List Stmt} {pos : Pos} (h : TV c env n Γ σ (isTrue test env (eval test env)) (IfP c env n body orelse Γ Ψ)) : XV c env n Γ σ (exec (.If test body orelse pos) env) Ψ := by
  refine ⟨fun A own s Q E ar bd k => ?_⟩
  refine wpAny_If (h.run A own s _ E ar bd fun b σ₁ own₁ h₁ tk₁ p ow₁ st₁ => ?_)
  cases b with
  | true => exact p.run A own₁ _ Q E ar (bd.step st₁ ow₁) fun f fl Γ₂ σ₂ own₂ h₂ tk₂ p₂ bd₂ st₂ r₂ => k f fl Γ₂ σ₂ own₂ h₂ tk₂ p₂ bd₂ (st₁.more.trans st₂ bd.ow.old) r₂
  | false => exact p.run A own₁ _ Q E ar (bd.step st₁ ow₁) fun f fl Γ₂ σ₂ own₂ h₂ tk₂ p₂ bd₂ st₂ r₂ => k f fl Γ₂ σ₂ own₂ h₂ tk₂ p₂ bd₂ (st₁.more.trans st₂ bd.ow.old) r₂
theorem x_expr {e : Expr} {pos : Pos} (h : EV c env n Γ σ (eval e env) fun _ σ₁ => Ψ .next Γ σ₁) (hi : interactive env = false := by rfl) (hs : swapsWith e none pos.line env = pure false := by rfl) : XV c env n Γ σ (exec (.Expr e pos) env) Ψ := by
  refine ⟨fun A own s Q E ar bd k => ?_⟩
  exact wpAny_Expr_any (h.run A own s _ E ar bd fun v d σ₁ own₁ h₁ tk₁ p ow₁ st₁ r => k _ _ Γ σ₁ own₁ h₁ tk₁ p (bd.step st₁ ow₁) st₁.more .next) hi hs

theorem nodup_inj {α β : Type} {f : α → β} : ∀ {l : List α}, (l.map f).Nodup → ∀ {a b : α}, a ∈ l → b ∈ l → f a = f b → a = b
  | [], _, _, _, h, _, _ => (nomatch h)
  | x :: l, nd, a, b, ha, hb, e => by
    rw [List.map_cons, List.nodup_cons] at nd
    cases ha with
    | head =>
      cases hb with
      | head => rfl
      | tail _ hb => exact absurd (List.mem_map.mpr ⟨b, hb, e.symm⟩) nd.1
    | tail _ ha =>
      cases hb with
      | head => exact absurd (List.mem_map.mpr ⟨a, ha, e⟩) nd.1
      | tail _ hb => exact nodup_inj nd.2 ha hb e
noncomputable def storeOk (env : Env) (x : Str) : Bool := env.kindOf x == some .local || (env.kindOf x == some .cell && (env.cells.lookup x).isSome)
/-- a store into a name of the frame -/
theorem Bd.store {own : List Addr} {h : Heap} (bd : Bd c env own Γ σ h) {x : Str} {v : Value} {d : V} {A : Around} {s : Shared} {Q : Unit → Shared → Prop} {E : Value → Shared → Prop} (hs : s.heap = h) (r : Rp c.w (hideAll h own) v d)
    (hx : storeOk env x = true)
    (k : ∀ h' tk', Bd c env own ((x, d) :: Γ) σ h' → Stp (frA env ++ adr σ) own h (frA env ++ adr σ) own h' → Q () { s with heap := h', toks := tk' }) : wpAny c.M A (storeName env x v) Q E s := by
  subst hs
  have hx : env.kindOf x = some .local ∨ (env.kindOf x = some .cell ∧ ∃ a v₀, env.cells.lookup x = some a ∧ s.heap.IsCell a v₀) := by
    unfold storeOk at hx
    rcases Bool.or_eq_true_iff.mp hx with q | q
    · exact .inl (beq_iff_eq.mp q)
    · obtain ⟨q1, q2⟩ := Bool.and_eq_true_iff.mp q
      obtain ⟨a, ha⟩ := Option.isSome_iff_exists.mp q2
      obtain ⟨v, hv⟩ := (bd.cel _ (lookup_mem ha)).2.2.2
      exact .inr ⟨beq_iff_eq.mp q1, a, v, ha, hv⟩
  have sub : ∀ z ∈ frA env, z ∈ own ∧ z ∉ adr σ := fun z q => by
    cases q with
    | head => exact bd.loc
    | tail _ q =>
      obtain ⟨p, hp, rfl⟩ := List.mem_map.mp q
      have := bd.cel p (List.mem_filter.mp hp).1
      exact ⟨this.1, this.2.1⟩
  -- the frame's relation behind a change of one place of the frame
  have main : ∀ a h', a ∈ frA env → Heap.SameBut a s.heap h' → (∃ o, h'.get? a = some o) → (∀ p ∈ env.cells, ∃ v, h'.IsCell p.2 v) → (∃ m, h'.Ns env.locals m ∧ ∀ y e, ((x, d) :: Γ).lookup y = some e → VarIs c env own h' m y e) →
      Bd c env own ((x, d) :: Γ) σ h' ∧ Stp (frA env ++ adr σ) own s.heap (frA env ++ adr σ) own h' := by
    intro a h' ha sb hal hce hm
    have kp : Kp [a] s.heap h' := Kp.same sb (.head _)
    have st : (hideAll s.heap own).StaysIn (hideAll h' own) := hide_stays kp (fun z q => by simp at q; subst q; exact (sub _ ha).1) fun _ q => .inl q
    refine ⟨⟨⟨fun b y e => st b y (bd.ow.top b y e), bd.ow.sub, bd.ow.nd, fun z q => same_live sb hal (bd.ow.old z q), fun p hp => ?_, bd.ow.sys⟩, bd.ok, bd.loc, fun p hp => ⟨(bd.cel p hp).1, (bd.cel p hp).2.1, (bd.cel p hp).2.2.1, hce p hp⟩, bd.nd, hm⟩,
      kp.more fun z q => by simp at q; subst q; exact List.mem_append_left _ ha, fun _ q => .inl q, fun _ q => .inl q, fun _ q => .inl q⟩
    obtain ⟨o, h1, h2⟩ := bd.ow.cells p hp
    exact ⟨o, kp.keep _ _ h1 (fun q => by simp at q; exact (sub _ ha).2 (q ▸ List.mem_map_of_mem hp)), h2.mono st⟩
  obtain ⟨m, hns, hv⟩ := bd.ns
  rcases hx with hx | ⟨hx, a, v₀, hc, hi⟩
  · refine wpAny_storeName_local hx hns (fun h' hn sb => ?_) (by rw [bd.ok.kind]; rfl)
    have st : (hideAll s.heap own).StaysIn (hideAll h' own) := hide_stays (Kp.same sb (.head _)) (x := [env.locals]) (fun z q => by simp at q; subst q; exact bd.loc.1) fun _ q => .inl q
    refine (fun z => k h' _ z.1 z.2) (main env.locals h' (.head _) sb (let ⟨o, _, _, e, _⟩ := hn; ⟨o, e⟩) (fun p hp => let ⟨_, _, c3, v, o, c4, c5⟩ := bd.cel p hp; ⟨v, o, (sb.2 _ c3).trans c4, c5⟩) ⟨_, hn, fun y e q => ?_⟩)
    · rw [List.lookup_cons] at q
      split at q
      · rename_i z; cases q
        have z : y = x := beq_iff_eq.mp z
        subst z
        exact .inl ⟨hx, v, by simp, r.mono st⟩
      · rename_i z
        have z : y ≠ x := fun w => by simp [w] at z
        rcases hv y e q with ⟨w, v', w1, w2⟩ | ⟨w, ad, v', w1, ⟨o, w2, w3⟩, w4⟩
        · exact .inl ⟨w, v', by simp [z, w1], w2.mono st⟩
        · exact .inr ⟨w, ad, v', w1, ⟨o, (sb.2 ad (bd.cel _ (lookup_mem w1)).2.2.1).trans w2, w3⟩, w4.mono st⟩
  · have hmem := lookup_mem hc
    have haf : a ∈ frA env := List.mem_cons_of_mem _ (List.mem_map.mpr ⟨(x, a), List.mem_filter.mpr ⟨hmem, by rw [hx]; rfl⟩, rfl⟩)
    refine wpAny_storeName_cell bd.ok.kind hx hc hi fun h' hi' sb => ?_
    have st : (hideAll s.heap own).StaysIn (hideAll h' own) := hide_stays (Kp.same sb (.head _)) (x := [a]) (fun z q => by simp at q; subst q; exact (sub _ haf).1) fun _ q => .inl q
    refine (fun z => k h' _ z.1 z.2) (main a h' haf sb (let ⟨o, e, _⟩ := hi'; ⟨o, e⟩) (fun p hp => by
      by_cases q : p.2 = a
      · rw [q]; exact ⟨_, hi'⟩
      · obtain ⟨_, _, c3, v, o, c4, c5⟩ := bd.cel p hp; exact ⟨v, o, (sb.2 _ q).trans c4, c5⟩) ⟨m, hns.sameBut sb (fun q => (bd.cel _ hmem).2.2.1 q.symm), fun y e q => ?_⟩)
    · rw [List.lookup_cons] at q
      split at q
      · rename_i z; cases q
        have z : y = x := beq_iff_eq.mp z
        subst z
        exact .inr ⟨.inl hx, a, v, hc, hi', r.mono st⟩
      · rename_i z
        have z : y ≠ x := fun w => by simp [w] at z
        rcases hv y e q with ⟨w, v', w1, w2⟩ | ⟨w, ad, v', w1, ⟨o, w2, w3⟩, w4⟩
        · exact .inl ⟨w, v', w1, w2.mono st⟩
        · refine .inr ⟨w, ad, v', w1, ⟨o, (sb.2 ad fun q' => z ?_).trans w2, w3⟩, w4.mono st⟩
          have h1 := lookup_mem w1
          subst q'
          exact congrArg Prod.fst (nodup_inj bd.nd h1 hmem rfl)
end
end Mine
end

section
open PySem PySem.W PyProof.Rows PySem.Calls PySem.Spec
set_option maxRecDepth 100000
namespace Mine

section
variable {c : Cx} {env : Env} {n : Nat} {Γ : Gm} {σ : St} {Φ : V → St → Prop} {Ψ : Fl → Gm → St → Prop}

theorem x_assign {x : Str} {p' pos : Pos} {e : Expr} (h : EV c env n Γ σ (eval e env) fun d σ₁ => Ψ .next ((x, d) :: Γ) σ₁) (hx : storeOk env x = true) (hs : swapsWith e (some (.Name x p')) pos.line env = pure false := by rfl) :
    XV c env n Γ σ (exec (.Assign [.Name x p'] e pos) env) Ψ := by
  refine ⟨fun A own s Q E ar bd k => ?_⟩
  refine wpAny_Assign_Name (h.run A own s _ E ar bd fun v d σ₁ own₁ h₁ tk₁ p ow₁ st₁ r => ?_) hs
  refine (bd.step st₁ ow₁).store rfl r hx fun h' tk' bd' st' => ?_
  exact k _ _ _ σ₁ own₁ h' tk' p bd' (st₁.more.trans st' bd.ow.old) .next

/-! the entry of a def -/
theorem bindL_get (kindOf : Str → Option NameKind) (x : Str) (hx : kindOf x = some .local) : ∀ (binds : List (Str × Value)) (m : Str → Option Value), (binds.map (·.1)).Nodup → bindL kindOf binds m x = match binds.lookup x with | some v => some v | none => m x
  | [], m, _ => rfl
  | (y, v) :: r, m, nd => by
    rw [List.map_cons, List.nodup_cons] at nd
    unfold bindL
    rw [bindL_get kindOf x hx r _ nd.2, List.lookup_cons]
    by_cases q : x = y
    · subst q
      have hn : r.lookup x = none := by
        cases hl : r.lookup x with
        | none => rfl
        | some w => exact absurd (List.mem_map.mpr ⟨_, lookup_mem hl, rfl⟩) nd.1
      rw [hn]; simp [hx]
    · have : (x == y) = false := beq_eq_false_iff_ne.mpr q
      rw [this]
      cases r.lookup x with
      | some w => rfl
      | none =>
        show (if kindOf y = some .local then fun z => if z = y then some v else m z else m) x = m x
        split
        · simp [q]
        · rfl
theorem bindC_get (kindOf : Str → Option NameKind) (x : Str) (hx : kindOf x ≠ some .local) : ∀ (binds : List (Str × Value)) (m : Str → Option Value), (binds.map (·.1)).Nodup → bindC kindOf binds m x = match binds.lookup x with | some v => some v | none => m x
  | [], m, _ => rfl
  | (y, v) :: r, m, nd => by
    rw [List.map_cons, List.nodup_cons] at nd
    unfold bindC
    rw [bindC_get kindOf x hx r _ nd.2, List.lookup_cons]
    by_cases q : x = y
    · subst q
      have hn : r.lookup x = none := by
        cases hl : r.lookup x with
        | none => rfl
        | some w => exact absurd (List.mem_map.mpr ⟨_, lookup_mem hl, rfl⟩) nd.1
      rw [hn]; simp [hx]
    · have : (x == y) = false := beq_eq_false_iff_ne.mpr q
      rw [this]
      cases r.lookup x with
      | some w => rfl
      | none =>
        show (if kindOf y = some .local then m else fun z => if z = y then some v else m z) x = m x
        split
        · rfl
        · simp [q]
theorem zip_lookup {w : World} {h : Heap} {x : Str} {d : V} : ∀ {xs : List Str} {vs : List Value} {ds : List V}, Rps w h vs ds → (xs.zip ds).lookup x = some d → ∃ v, (xs.zip vs).lookup x = some v ∧ Rp w h v d
  | [], _, _, _, e => by cases e
  | y :: xs, _, _, .nil, e => by cases e
  | y :: xs, v :: vs, d' :: ds, .cons a r, e => by
    rw [List.zip_cons_cons, List.lookup_cons] at e ⊢
    split at e
    · rename_i q; cases e; exact ⟨v, rfl, a⟩
    · rename_i q
      obtain ⟨u, h1, h2⟩ := zip_lookup r e
      exact ⟨u, h1, h2⟩
theorem zip_map_fst {α : Type} : ∀ (xs : List Str) (vs : List α), vs.length = xs.length → (xs.zip vs).map (·.1) = xs
  | [], _, _ => by simp
  | x :: xs, [], h => by simp at h
  | x :: xs, v :: vs, h => by simp [zip_map_fst xs vs (by simpa using h)]

/-- the frame of a def of the module -/
noncomputable abbrev fenv (scope : Scope) (qual : Str) (f : Addr) (cdv : Value) (L : Addr) : Env := newEnv scope L mainGlobals (cellsFrom (L + 1) scope.names []) (qual ++ ".<locals>.") (some f) cdv none builtinsNs

theorem pairwise_nodup : ∀ {l : List (Str × Addr)}, (l.Pairwise fun x y => x.2 ≠ y.2) → (l.map (·.2)).Nodup
  | [], _ => by simp
  | x :: l, h => by
    rw [List.pairwise_cons] at h
    rw [List.map_cons, List.nodup_cons]
    refine ⟨fun q => ?_, pairwise_nodup h.2⟩
    obtain ⟨y, hy, e⟩ := List.mem_map.mp q
    exact h.1 y hy e.symm

/-- what a body's end must give: the value, and the cells that go on -/
noncomputable abbrev RetP (Φ : V → St → Prop) (fl : Fl) (_ : Gm) (σ' : St) : Prop := ∃ d σ₁, (fl = .ret d ∨ (fl = .next ∧ d = .none)) ∧ σ₁.Sublist σ' ∧ Φ d σ₁
theorem ret_ok {Φ : V → St → Prop} {d : V} {σ : St} (p : Φ d σ) : RetP Φ (.ret d) [] σ := ⟨_, _, .inl rfl, List.Sublist.refl _, p⟩
theorem len1 {α : Type} {vs : List α} (h : vs.length = 1) : ∃ a, vs = [a] := by
  match vs, h with
  | [a], _ => exact ⟨a, rfl⟩
theorem lenS {α : Type} {vs : List α} {k : Nat} (h : vs.length = k + 1) : ∃ a us, us.length = k ∧ vs = a :: us := by
  match vs, h with
  | a :: us, h => exact ⟨a, us, Nat.succ.inj h, rfl⟩
theorem len2 {α : Type} {vs : List α} (h : vs.length = 2) : ∃ a b, vs = [a, b] := by
  obtain ⟨a, us, q, rfl⟩ := lenS h
  obtain ⟨b, rfl⟩ := len1 q
  exact ⟨a, b, rfl⟩
theorem len3 {α : Type} {vs : List α} (h : vs.length = 3) : ∃ a b d, vs = [a, b, d] := by
  obtain ⟨a, us, q, rfl⟩ := lenS h
  obtain ⟨b, d, rfl⟩ := len2 q
  exact ⟨a, b, d, rfl⟩
theorem len4 {α : Type} {vs : List α} (h : vs.length = 4) : ∃ a b d e, vs = [a, b, d, e] := by
  obtain ⟨a, us, q, rfl⟩ := lenS h
  obtain ⟨b, d, e, rfl⟩ := len3 q
  exact ⟨a, b, d, e, rfl⟩
theorem len5 {α : Type} {vs : List α} (h : vs.length = 5) : ∃ a b d e f, vs = [a, b, d, e, f] := by
  obtain ⟨a, us, q, rfl⟩ := lenS h
  obtain ⟨b, d, e, f, rfl⟩ := len4 q
  exact ⟨a, b, d, e, f, rfl⟩
theorem len6 {α : Type} {vs : List α} (h : vs.length = 6) : ∃ a b d e f g, vs = [a, b, d, e, f, g] := by
  obtain ⟨a, us, q, rfl⟩ := lenS h
  obtain ⟨b, d, e, f, g, rfl⟩ := len5 q
  exact ⟨a, b, d, e, f, g, rfl⟩
theorem fc_defG {f : Addr} {oc : Value} {od : Option Addr} {osl : Array (Option Value)} {name qual : Str} {params : Arguments} {body : List Stmt} {scope : Scope} {dV kV doc pm cdv ct : Value} {an : Option Addr}
    (ho : (HpK c.w.params).lookup f = some ⟨oc, od, .func (fnOf name qual params body scope dV kV doc pm an cdv ct), osl⟩) (hcd : codeIn (HpK c.w.params) cdv qual = true) {ds : List V} (xs : List Str) (dv : List Value) (dd : List V) (hdv : ∀ h, Rps c.w h dv dd)
    (hb : ∀ (s : Shared) (vs : List Value), c.K.In s.heap → vs.length = ds.length → BindsTo s (fnOf name qual params body scope dV kV doc pm an cdv ct) ⟨vs, []⟩ (xs.zip (vs ++ dv)))
    (hl : (ds ++ dd).length = xs.length) (hx : xs.Nodup) (hkind : (xs.all fun x => scope.names.lookup x == some .local || scope.names.lookup x == some .cell) = true)
    (hnd : ((cellsFrom 0 scope.names []).map (·.1)).Nodup)
    (h : ∀ L, XV c (fenv scope qual f cdv L) n (xs.zip (ds ++ dd)) σ (execs body (fenv scope qual f cdv L)) (RetP Φ))
    (hk : scope.kind = .function := by rfl) (hco : scope.isCoroutine = false := by rfl) (hgen : scope.isGenerator = false := by rfl) : FC c (n + 1) (.ref f) ds σ Φ := by
  refine ⟨fun A own s vs R ar ow r k => ?_⟩
  have r₀ : Rps c.w (hideAll s.heap own) (vs ++ dv) (ds ++ dd) := r.append (hdv _)
  have hlen₀ := r.length
  have hlen := r₀.length
  have K1 := c.KIn.keeps ow.stays
  refine codeAny_call_function (by have := ar.depth; unfold recursionLimit; omega) (K1 _ _ ho) rfl hco hgen rfl (codeRec_of K1 hcd) (hb s vs K1 hlen₀ _ _ _ _ ?_)
  have hnd' : (xs.zip (vs ++ dv)).map (·.1) = xs := zip_map_fst xs (vs ++ dv) (by omega)
  have hkinds := kindsX (scope := scope) (binds := xs.zip (vs ++ dv)) (by
    rw [List.all_eq_true]
    intro p hp
    exact List.all_eq_true.mp hkind p.1 (by rw [← hnd']; exact List.mem_map_of_mem hp))
  refine wpAny_newFunctionEnv_cells hk (hkinds _) fun env' he s' x => ?_
  subst he
  refine ⟨(c.nolimit.keeps ow.stays).keeps x.toInCall.keep, codeAny_func ?_⟩
  obtain ⟨h₁, tk, rfl⟩ := x.toInCall.same
  have hkp := x.toInCall.keep
  have Lfresh := x.toInCall.fresh
  -- abbreviations
  generalize hE : newEnv scope s.heap.objs.size mainGlobals (cellsFrom (s.heap.objs.size + 1) scope.names []) (qual ++ ".<locals>.") (some f) cdv none builtinsNs = ev at x
  have hE' : fenv scope qual f cdv s.heap.objs.size = ev := hE
  have hloc : ev.locals = s.heap.objs.size := by rw [← hE]; rfl
  have hcells : ev.cells = cellsFrom (s.heap.objs.size + 1) scope.names [] := by rw [← hE]; rfl
  have hko : ∀ y, ev.kindOf y = scope.names.lookup y := fun y => by rw [← hE]; rfl
  have hcnd : (ev.cells.map (·.1)).Nodup := by
    rw [hcells]; exact cellsFrom_names scope.names 0 (s.heap.objs.size + 1) [] [] rfl ▸ hnd
  have hcell : ∀ p ∈ ev.cells, h₁.IsCell p.2 (bindC ev.kindOf (xs.zip (vs ++ dv)) (fun _ => none) p.1) ∧ s.heap.objs.size < p.2 := fun p hp =>
    ⟨x.cell p.1 p.2 (lookup_of_mem_nodup hcnd hp), hloc ▸ x.above p.1 p.2 hp⟩
  have hlt : ∀ p ∈ ev.cells, p.2 < h₁.objs.size := fun p hp => let ⟨o, h1, _⟩ := (hcell p hp).1; Heap.lt_size h1
  have hsz : s.heap.objs.size < h₁.objs.size := by
    have := x.toInCall.ns.lt
    rw [hloc] at this; exact this
  have kp : Kp [] s.heap h₁ := ⟨fun b o e _ => hkp b o e⟩
  -- own places of the frame
  let own' : List Addr := ev.locals :: (ev.cells.map (·.2) ++ own)
  have newge : ∀ z ∈ own', z ∈ own ∨ s.heap.get? z = none := fun z q => by
    rcases List.mem_cons.mp q with q | q
    · subst q; exact .inr (new_ge (Nat.le_of_eq hloc.symm))
    · rcases List.mem_append.mp q with q | q
      · obtain ⟨p, hp, rfl⟩ := List.mem_map.mp q
        exact .inr (new_ge (Nat.le_of_lt (hcell p hp).2))
      · exact .inl q
  have st : (hideAll s.heap own).StaysIn (hideAll h₁ own') := hide_stays kp (fun _ q => (nomatch q)) newge
  have notσ : ∀ z, s.heap.objs.size ≤ z → z ∉ adr σ := fun z q q' => not_new (ow.old z (ow.sub z q')) (new_ge q)
  have bd : Bd c ev own' (xs.zip (ds ++ dd)) σ h₁ := by
    refine ⟨⟨fun b o e => st b o (ow.top b o e), fun a q => .tail _ (List.mem_append_right _ (ow.sub a q)), ow.nd, fun a q => ?_, fun p hp => ?_, ow.sys⟩, ?_, ⟨.head _, notσ _ (Nat.le_of_eq hloc.symm)⟩, fun p hp => ⟨.tail _ (List.mem_append_left _ (List.mem_map_of_mem hp)), notσ _ (Nat.le_of_lt (hcell p hp).2), ?_, _, (hcell p hp).1⟩, pairwise_nodup x.apart, ?_⟩
    · rcases List.mem_cons.mp q with q | q
      · rw [q]; exact let ⟨o, _, _, e, _⟩ := x.toInCall.ns; ⟨o, e⟩
      · rcases List.mem_append.mp q with q | q
        · obtain ⟨p, hp, rfl⟩ := List.mem_map.mp q
          exact let ⟨o, e, _⟩ := (hcell p hp).1; ⟨o, e⟩
        · exact kp.live (ow.old a q)
    · obtain ⟨o, h1, h2⟩ := ow.cells p hp
      exact ⟨o, kp.keep _ _ h1 (fun q => (nomatch q)), h2.mono st⟩
    · rw [← hE]; exact ⟨hk, rfl, rfl⟩
    · rw [hloc]; exact Nat.ne_of_gt (hcell p hp).2
    · refine ⟨_, x.toInCall.ns, fun y d e => ?_⟩
      obtain ⟨v, h1, h2⟩ := zip_lookup (r₀.mono st) e
      have hmem : y ∈ xs := by
        have := List.mem_map_of_mem (f := (·.1)) (lookup_mem h1)
        rw [hnd'] at this; exact this
      have hndz : ((xs.zip (vs ++ dv)).map (·.1)).Nodup := by rw [hnd']; exact hx
      have hkk := List.all_eq_true.mp hkind y hmem
      rcases Bool.or_eq_true_iff.mp hkk with q | q
      · have q := beq_iff_eq.mp q
        refine .inl ⟨(hko y).trans q, v, ?_, h2⟩
        rw [bindL_get _ _ ((hko y).trans q) _ _ hndz, h1]
      · have q := beq_iff_eq.mp q
        have hs : (ev.cells.lookup y).isSome = true := by rw [hcells]; exact cellsFrom_some _ _ _ (.inl q)
        obtain ⟨a, ha⟩ := Option.isSome_iff_exists.mp hs
        refine .inr ⟨.inl ((hko y).trans q), a, v, ha, ?_, h2⟩
        have := (hcell _ (lookup_mem ha)).1
        rw [bindC_get _ _ (by rw [hko y, q]; intro z; cases z) _ _ hndz, h1] at this
        exact this
  have arb : Ar n (A.deeper ev) := ⟨ar.handled, by have := ar.depth; show A.depth + 1 + 3 * n ≤ 600; omega, by have := ar.units; show A.units + 3 + 100 * n ≤ 9000; omega⟩
  have hfr : ∀ z ∈ frA ev, s.heap.get? z = none := fun z q => by
    cases q with
    | head => exact new_ge (Nat.le_of_eq hloc.symm)
    | tail _ q =>
      obtain ⟨p, hp, rfl⟩ := List.mem_map.mp q
      exact new_ge (Nat.le_of_lt (hcell p (List.mem_filter.mp hp).1).2)
  have hh := h s.heap.objs.size
  rw [hE'] at hh
  refine hh.run (A.deeper ev) own' _ _ _ arb bd fun fw fl Γ' σ' own₂ h₂ tk₂ p bd₂ st₂ rf => ?_
  obtain ⟨d, σ₁, hfl, hsub, hΦ⟩ := p
  have fin : ∀ v, Rp c.w (hideAll h₂ own₂) v d → R (.ok (.ret v)) { s with heap := h₂, toks := tk₂ } := fun v rv => k v d σ₁ own₂ h₂ tk₂ hΦ ?_ ?_ rv
  · cases rf with
    | next =>
      rcases hfl with q | ⟨_, rfl⟩
      · cases q
      · exact fin _ .none
    | brk => rcases hfl with q | ⟨q, rfl⟩ <;> cases q
    | cont => rcases hfl with q | ⟨q, rfl⟩ <;> cases q
    | ret r =>
      rcases hfl with q | ⟨q, rfl⟩
      · cases q; exact fin _ r
      · cases q
  · exact ⟨bd₂.ow.top, fun a q => bd₂.ow.sub a ((hsub.map _).subset q), bd₂.ow.nd.sublist (hsub.map _), bd₂.ow.old, fun p hp => bd₂.ow.cells p (hsub.subset hp), fun q => bd₂.ow.sys ((hsub.map _).subset q)⟩
  · refine ⟨(kp.more fun _ q => (nomatch q)).trans st₂.kp fun z q => ?_, fun z q => ?_, fun z q => ?_, fun z q => ?_⟩
    · rcases List.mem_append.mp q with q | q
      · exact .inr (hfr z q)
      · exact .inl q
    · rcases st₂.sub z (.tail _ (List.mem_append_right _ q)) with q' | q'
      · exact .inl q'
      · rcases List.mem_append.mp q' with q' | q'
        · exact (not_new (ow.old z q) (hfr z q')).elim
        · exact .inr q'
    · rcases st₂.new z q with q | q | q
      · exact (newge z q).imp id .inr
      · rcases List.mem_append.mp q with q | q
        · exact .inr (.inr (hfr z q))
        · exact .inr (.inl q)
      · exact .inr (.inr ((kp.isNone q).elim (fun q => nomatch q) id))
    · rcases st₂.xnew z (List.mem_append_right _ ((hsub.map _).subset q)) with q | q
      · rcases List.mem_append.mp q with q | q
        · exact .inr (hfr z q)
        · exact .inl q
      · exact .inr ((kp.isNone q).elim (fun q => nomatch q) id)
theorem fc_def {f : Addr} {oc : Value} {od : Option Addr} {osl : Array (Option Value)} {name qual : Str} {params : Arguments} {body : List Stmt} {scope : Scope} {dV kV doc pm cdv ct : Value} {an : Option Addr}
    (ho : (HpK c.w.params).lookup f = some ⟨oc, od, .func (fnOf name qual params body scope dV kV doc pm an cdv ct), osl⟩) (hcd : codeIn (HpK c.w.params) cdv qual = true) {ds : List V} (xs : List Str)
    (hb : ∀ (s : Shared) (vs : List Value), c.K.In s.heap → vs.length = ds.length → BindsTo s (fnOf name qual params body scope dV kV doc pm an cdv ct) ⟨vs, []⟩ (xs.zip vs))
    (hl : ds.length = xs.length) (hx : xs.Nodup) (hkind : (xs.all fun x => scope.names.lookup x == some .local || scope.names.lookup x == some .cell) = true)
    (hnd : ((cellsFrom 0 scope.names []).map (·.1)).Nodup)
    (h : ∀ L, XV c (fenv scope qual f cdv L) n (xs.zip ds) σ (execs body (fenv scope qual f cdv L)) (RetP Φ))
    (hk : scope.kind = .function := by rfl) (hco : scope.isCoroutine = false := by rfl) (hgen : scope.isGenerator = false := by rfl) : FC c (n + 1) (.ref f) ds σ Φ :=
  fc_defG ho hcd xs [] [] (fun _ => .nil) (fun s vs X e => by rw [List.append_nil]; exact hb s vs X e) (by rw [List.append_nil]; exact hl) hx hkind hnd (fun L => by rw [List.append_nil]; exact h L) hk hco hgen
end
end Mine
end

section
open PySem PySem.W PyProof.Rows PySem.Calls PySem.Spec
set_option maxRecDepth 100000
namespace Mine

section
variable {c : Cx} {env : Env} {n : Nat} {Γ : Gm} {σ : St} {Φ : V → St → Prop} {Ψ : Fl → Gm → St → Prop}

theorem Ow.at_ {own : List Addr} {h : Heap} (o : Ow c own σ h) {k : Nat} {a : Addr} {m : MO} (e : σ[k]? = some (a, m)) : ∃ ob, h.get? a = some ob ∧ MoIs c.w (hideAll h own) ob m :=
  o.cells (a, m) (List.mem_of_getElem? e)
theorem Ow.list {own : List Addr} {h : Heap} (o : Ow c own σ h) {k : Nat} {a : Addr} {ds : List V} (e : σ[k]? = some (a, .list ds)) : ∃ vs n, h.get? a = some (listO vs n) ∧ Rps c.w (hideAll h own) vs ds := by
  obtain ⟨ob, h1, h2⟩ := o.at_ e
  cases h2 with
  | list r => exact ⟨_, _, h1, r⟩
theorem isList_of {h : Heap} {a : Addr} {vs : List Value} {n : Nat} (e : h.get? a = some (listO vs n)) : h.IsList a vs.toArray := ⟨_, e, rfl, n, rfl⟩

theorem set_mem {a : Addr} {m m' : MO} {p : Addr × MO} : ∀ {σ : St} {k : Nat}, (adr σ).Nodup → σ[k]? = some (a, m) → p ∈ σ.set k (a, m') → p = (a, m') ∨ (p ∈ σ ∧ p.1 ≠ a)
  | [], _, _, e, _ => by cases e
  | q :: σ, 0, nd, e, hp => by
    simp only [List.getElem?_cons_zero, Option.some.injEq] at e
    subst e
    rw [List.set_cons_zero] at hp
    rcases List.mem_cons.mp hp with z | z
    · exact .inl z
    · refine .inr ⟨.tail _ z, fun w => ?_⟩
      rw [adr, List.map_cons, List.nodup_cons] at nd
      exact nd.1 (List.mem_map.mpr ⟨p, z, w⟩)
  | q :: σ, k + 1, nd, e, hp => by
    rw [List.getElem?_cons_succ] at e
    rw [List.set_cons_succ] at hp
    rw [adr, List.map_cons, List.nodup_cons] at nd
    rcases List.mem_cons.mp hp with z | z
    · subst z
      exact .inr ⟨.head _, fun w => nd.1 (List.mem_map.mpr ⟨_, List.mem_of_getElem? e, w.symm⟩)⟩
    · exact (set_mem nd.2 e z).imp id fun w => ⟨.tail _ w.1, w.2⟩
theorem set_adr {a : Addr} {m m' : MO} {k : Nat} (e : σ[k]? = some (a, m)) : adr (σ.set k (a, m')) = adr σ := by
  have hk : k < σ.length := (List.getElem?_eq_some_iff.mp e).1
  rw [adr, List.map_set]
  apply List.ext_getElem?
  intro j
  rw [List.getElem?_set]
  split
  · rename_i q; subst q
    simp only [List.length_map, hk, if_true, List.getElem?_map, e, Option.map_some]
  · rfl
/-- a change of one cell -/
theorem Ow.set {own : List Addr} {h h' : Heap} (o : Ow c own σ h) {k : Nat} {a : Addr} {m m' : MO} (e : σ[k]? = some (a, m)) (sb : Heap.SameBut a h h') {ob : Obj} (hob : h'.get? a = some ob) (hm : MoIs c.w (hideAll h own) ob m') :
    Ow c own (σ.set k (a, m')) h' ∧ Stp (adr σ) own h (adr (σ.set k (a, m'))) own h' := by
  have ha : a ∈ adr σ := List.mem_map_of_mem (List.mem_of_getElem? e)
  have kp : Kp (adr σ) h h' := Kp.same sb ha
  have st : (hideAll h own).StaysIn (hideAll h' own) := hide_stays kp o.sub fun _ q => .inl q
  have hadr : adr (σ.set k (a, m')) = adr σ := set_adr e
  refine ⟨⟨fun b x q => st b x (o.top b x q), hadr ▸ o.sub, hadr ▸ o.nd, fun z q => same_live sb ⟨ob, hob⟩ (o.old z q), fun p hp => ?_, hadr ▸ o.sys⟩, ?_⟩
  · rcases set_mem o.nd e hp with q | ⟨q, hpa⟩
    · subst q
      exact ⟨ob, hob, hm.mono st⟩
    · obtain ⟨o1, h1, h2⟩ := o.cells p q
      exact ⟨o1, (sb.2 _ hpa).trans h1, h2.mono st⟩
  · rw [hadr]
    exact ⟨kp, fun _ q => .inl q, fun _ q => .inl q, fun _ q => .inl q⟩

theorem Rps.set {w : World} {h : Heap} {vs : List Value} {ds : List V} (j : Nat) {v : Value} {d : V} (r : Rps w h vs ds) (q : Rp w h v d) : Rps w h (vs.set j v) (ds.set j d) := by
  induction ds generalizing vs j with
  | nil => obtain rfl := r.inv; exact .nil
  | cons e ds ih =>
    replace r := r.inv; obtain ⟨_, _, rfl, r1, r2⟩ := r
    cases j with
    | zero => exact .cons q r2
    | succ j => exact .cons r1 (ih j r2)

theorem p2_itemC {value slice : Expr} {a : Addr} {ds : List V} {i : Int} {d : V} (j : Nat) (hc : σ[j]? = some (a, .list ds)) (h0 : 0 ≤ i) (hi : i < 2 ^ 63) (e : ds[i.toNat]? = some d) (p : Φ d σ)
    (hs : ∀ l u, subscripted slice false (.ref l) (.int i u) = operate [.ref l, .int i u] (getItem (.ref l) (.int i u)) := by intro _ _; with_unfolding_all rfl) : P2 c n (.cell a) (.int i) σ (subscriptTail value slice) Φ := by
  refine ⟨fun A own s u v Q E ar ow ra rb k => ?_⟩
  (first | obtain rfl := rb.inv | obtain ⟨_, rfl⟩ := rb.inv | cases rb)
  (first | obtain rfl := ra.inv | obtain ⟨_, rfl⟩ := ra.inv | cases ra)
  obtain ⟨vs, m, hl, r⟩ := ow.list hc
  obtain ⟨x, h1, h2⟩ := r.get e
  have hL := isList_of hl
  exact tail_any hL.typeIs slot_list_getitem.lookup (wpAny_getItem_list hL h0 hi (by simpa using h1) (k x d σ own s.heap s.toks p ow (.refl _ _ _) h2)) (hs _ _)

/-- o[i] = v -/
theorem x_setitem {o i e : Expr} {p' pos : Pos} (h : EV c env n Γ σ (eval e env) fun dv σ₁ => EV c env n Γ σ₁ (eval o env) fun db σ₂ => EV c env n Γ σ₂ (eval i env) fun dk σ₃ => S3 c n dv db dk σ₃ (fun v o i => setItem o i v) (fun σ₄ => Ψ .next Γ σ₄))
    (hs : swapsWith e (some (.Subscript o i p')) pos.line env = pure false := by rfl) : XV c env n Γ σ (exec (.Assign [.Subscript o i p'] e pos) env) Ψ := by
  refine ⟨fun A own s Q E ar bd k => ?_⟩
  refine wpAny_Assign_Subscript (h.run A own s _ E ar bd fun v d σ₁ own₁ h₁ tk₁ p ow₁ st₁ r₁ => ?_) hs
  have bd₁ := bd.step st₁ ow₁
  refine p.run A own₁ _ _ E ar bd₁ fun u d' σ₂ own₂ h₂ tk₂ p₂ ow₂ st₂ r₂ => ?_
  have bd₂ := bd₁.step st₂ ow₂
  refine p₂.run A own₂ _ _ E ar bd₂ fun x d'' σ₃ own₃ h₃ tk₃ p₃ ow₃ st₃ r₃ => ?_
  refine p₃.run A own₃ _ v u x _ E ar ow₃ ((r₁.mono (ow₁.stp st₂)).mono (ow₂.stp st₃)) (r₂.mono (ow₂.stp st₃)) r₃ fun σ₄ own₄ h₄ tk₄ p₄ ow₄ st₄ => ?_
  exact k _ .next Γ σ₄ own₄ h₄ tk₄ p₄ ((bd₂.step st₃ ow₃).step st₄ ow₄) (((st₁.trans st₂ bd.ow.old).trans st₃ bd.ow.old).trans st₄ bd.ow.old).more .next
theorem s3_list {a : Addr} {ds : List V} {i : Int} {dv : V} {Φ : St → Prop} (j : Nat) (hc : σ[j]? = some (a, .list ds)) (h0 : 0 ≤ i) (hi : i < 2 ^ 63) (hn : i < ds.length) (p : Φ (σ.set j (a, .list (ds.set i.toNat dv)))) : S3 c n dv (.cell a) (.int i) σ (fun v o i => setItem o i v) Φ := by
  refine ⟨fun A own s x o iv Q E ar ow rx ro ri k => ?_⟩
  (first | obtain rfl := ri.inv | obtain ⟨_, rfl⟩ := ri.inv | cases ri)
  (first | obtain rfl := ro.inv | obtain ⟨_, rfl⟩ := ro.inv | cases ro)
  obtain ⟨vs, m, hl, r⟩ := ow.list hc
  have hlen := r.length
  refine ki_setAt hl h0 hi (by simp; omega) ?_
  obtain ⟨o1, o2⟩ := ow.set (m' := .list (ds.set i.toNat dv)) hc (Heap.SameBut.update _ _ (Obj.mapSeq (·.setIfInBounds i.toNat x))) (ob := listO (vs.set i.toNat x) m) (by
    rw [Heap.get?_update_self _ hl rfl]
    simp [Obj.mapSeq, listO]) (.list (r.set _ rx))
  exact k _ own _ s.toks p o1 o2
end
end Mine
end

section
open PySem PySem.W PyProof.Rows PySem.Calls PySem.Spec
set_option maxRecDepth 100000
namespace Mine

section
variable {c : Cx} {env : Env} {n : Nat} {Γ : Gm} {σ : St} {Φ : V → St → Prop} {Ψ : Fl → Gm → St → Prop}

/-! calls -/
theorem ev_call {x : Str} {p pos : Pos} {f : Value} {e : Expr} {rest : List Expr} (hf : nsIn (HpK c.w.params) mainGlobals x = some (some f)) (hk : env.kindOf x = some .globalImplicit) (hkeep : keepIn (HpK c.w.params) f = true)
    (h : LV c env n Γ σ (spliced (backTo pos (starEach (e :: rest) env))) fun ds σ₁ => CV c n f ds σ₁ Φ)
    (hd : (x == ("__debug__" : Str)) = false := by decide) (he : starEach (e :: rest) env = (false, eval e env) :: starEach rest env := by rfl) (hplain : (backTo pos (starEach rest env)).any (·.1) = false := by rfl) : EV c env n Γ σ (eval (.Call (.Name x p) (e :: rest) [] pos) env) Φ := by
  refine ⟨fun A own s Q E ar bd k => ?_⟩
  refine wpAny_Call_NameR (glob_any bd hf hk hd (callWith_K (h₀ := c.hb) c.KIn hkeep ?_ he hplain))
  refine h.run A own s _ E ar bd fun vs ds σ₁ own₁ h₁ tk₁ p₁ ow₁ st₁ r₁ => ⟨c.KIn.keeps ow₁.stays, ?_⟩
  exact p₁.run A own₁ _ vs Q E ar ow₁ r₁ fun v d σ₂ own₂ h₂ tk₂ p₂ ow₂ st₂ r₂ => k v d σ₂ own₂ h₂ tk₂ p₂ ow₂ (st₁.trans st₂ bd.ow.old) r₂
theorem ev_callB {x : Str} {p pos : Pos} {id : String} {e : Expr} {rest : List Expr} (hf : nsIn (HpK c.w.params) mainGlobals x = some none) (hv : bootBuiltins x = some (.builtin id)) (hk : env.kindOf x = some .globalImplicit)
    (h : LV c env n Γ σ (spliced (backTo pos (starEach (e :: rest) env))) fun ds σ₁ => CV c n (.builtin id) ds σ₁ Φ)
    (hn : x ≠ "__name__" := by decide) (hd : (x == ("__debug__" : Str)) = false := by decide) (he : starEach (e :: rest) env = (false, eval e env) :: starEach rest env := by rfl) (hplain : (backTo pos (starEach rest env)).any (·.1) = false := by rfl) : EV c env n Γ σ (eval (.Call (.Name x p) (e :: rest) [] pos) env) Φ := by
  refine ⟨fun A own s Q E ar bd k => ?_⟩
  refine wpAny_Call_NameR (bi_any bd hf hv hk hn hd (callWith_builtin1 ?_ he hplain))
  refine h.run A own s _ E ar bd fun vs ds σ₁ own₁ h₁ tk₁ p₁ ow₁ st₁ r₁ => ?_
  exact p₁.run A own₁ _ vs Q E ar ow₁ r₁ fun v d σ₂ own₂ h₂ tk₂ p₂ ow₂ st₂ r₂ => k v d σ₂ own₂ h₂ tk₂ p₂ ow₂ (st₁.trans st₂ bd.ow.old) r₂
theorem ev_callT {x : Str} {p pos : Pos} {T : String} {e : Expr} {rest : List Expr} (hf : nsIn (HpK c.w.params) mainGlobals x = some none) (hv : bootBuiltins x = some (.type T)) (hk : env.kindOf x = some .globalImplicit)
    (h : LV c env n Γ σ (spliced (backTo pos (starEach (e :: rest) env))) fun ds σ₁ => CV c n (.type T) ds σ₁ Φ)
    (hn : x ≠ "__name__" := by decide) (hd : (x == ("__debug__" : Str)) = false := by decide) (he : starEach (e :: rest) env = (false, eval e env) :: starEach rest env := by rfl) (hplain : (backTo pos (starEach rest env)).any (·.1) = false := by rfl) : EV c env n Γ σ (eval (.Call (.Name x p) (e :: rest) [] pos) env) Φ := by
  refine ⟨fun A own s Q E ar bd k => ?_⟩
  refine wpAny_Call_NameR (bi_any bd hf hv hk hn hd (PyProof.Rows.callWith_type1 ?_ he hplain))
  refine h.run A own s _ E ar bd fun vs ds σ₁ own₁ h₁ tk₁ p₁ ow₁ st₁ r₁ => ?_
  exact p₁.run A own₁ _ vs Q E ar ow₁ r₁ fun v d σ₂ own₂ h₂ tk₂ p₂ ow₂ st₂ r₂ => k v d σ₂ own₂ h₂ tk₂ p₂ ow₂ (st₁.trans st₂ bd.ow.old) r₂

/-! the class of a datum, isinstance -/
noncomputable def typ : V → Value
  | .none => .type "NoneType"
  | .bool _ => .type "bool"
  | .int _ => .type "int"
  | .str _ => .type "str"
  | .bytes _ => .type "bytes"
  | .tup _ => .type "tuple"
  | .list _ => .type "list"
  | .ds _ => .type "dict"
  | .di _ => .type "dict"
  | .db _ => .type "dict"
  | .inst C _ => .ref C
  | .raw C _ => .ref C
  | _ => .none
/-- the facts of a class that reads of its objects ask -/
structure ClsOk (w : World) (C : Addr) : Prop where
  ga : plainGet (HpK w.params) C "__class__" = true
  hd : hasDictIn (HpK w.params) C = true
  cls : findIn (Mine.HpK w.params) (.ref C) "__class__" = some (some (.builtin "object.__class__"))
  gs : specialIn (Mine.HpK w.params) (.builtin "object.__class__") "__get__" = some (some (.builtin "getset_descriptor.__get__"))
  tk : takesIn (Mine.HpK w.params) (.builtin "object.__class__") = some true
  ob : mroIn (Mine.HpK w.params) C (.type "object") = some true
noncomputable def clsOk (w : World) : V → Prop
  | .inst C _ => ClsOk w C
  | .raw _ _ => False
  | .cell _ => False
  | .obj _ => False
  | _ => True

theorem inst_at {h : Heap} {a C dx : Addr} {m : Str → Option Value} (e1 : h.get? a = some (instObj C dx)) (e2 : h.Ns dx m) : ∃ od, PySem.W.InstAt h a (instObj C dx) C (some od) ∧ ∀ x, lookIn x od = some (m x) := by
  obtain ⟨o, es, ep, ho, hd, hk, hf⟩ := e2
  refine ⟨o, ⟨e1, rfl, rfl, ho⟩, fun x => ?_⟩
  unfold lookIn
  rw [hd, ← hf x]
  dsimp only
  unfold nsFind findBy
  rw [← Array.find?_toList]
  cases hq : es.toList.find? (·.key.isStr x) with
  | some e => rfl
  | none =>
    have : es.toList.any (·.refKey) = false := by
      rw [List.any_eq_false]
      intro e he
      obtain ⟨n, t, q⟩ := hk e (by simpa using he)
      simp [DictEntry.refKey, q]
    simp [this]
theorem hide_ns {h : Heap} {own : List Addr} {a : Addr} {m : Str → Option Value} (x : (hideAll h own).Ns a m) : h.Ns a m := x.keeps fun b o e => of_hideAll own e

theorem cv_isi {d : V} {cl : Value} {b : Bool} (hc : clsOk c.w d) (e : kitOne (HpK c.w.params) (typ d) cl = some b) (p : Φ (.bool b) σ) : CV c n (.builtin "isinstance") [d, .obj cl] σ Φ := by
  refine ⟨fun A own s vs Q E ar ow r k => ?_⟩
  have X := c.KIn.keeps ow.stays
  replace r := r.inv; obtain ⟨_, _, rfl, r1, r2⟩ := r
  replace r2 := r2.inv; obtain ⟨_, _, rfl, r2, r3⟩ := r2
  (first | obtain rfl := r3.inv | obtain ⟨_, rfl⟩ := r3.inv | cases r3)
  (first | obtain rfl := r2.inv | obtain ⟨_, rfl⟩ := r2.inv | cases r2)
  have fin : ∀ tk, Q (.bool b) { s with toks := tk } := fun tk => k _ _ σ own s.heap tk p ow (.refl _ _ _) (.bool b)
  cases r1 with
  | none => exact kia_one kitx_none X trivial e (fun q => by cases q) fin
  | bool x => exact kia_one kitx_bool X trivial e (fun q => by cases q) fin
  | int x t => exact kia_one kitx_int X trivial e (fun q => by cases q) fin
  | str x t => exact kia_one kitx_str X trivial e (fun q => by cases q) fin
  | bytes x t => exact kia_one kitx_bytes X trivial e (fun q => by cases q) fin
  | tup e1 _ => exact kia_one kitx_tuple X ⟨_, of_hideAll _ e1, rfl⟩ e (fun q => by cases q) fin
  | list e1 _ => exact kia_one kitx_list X ⟨_, of_hideAll _ e1, rfl⟩ e (fun q => by cases q) fin
  | ds e1 _ _ _ => exact kia_one kitx_dict X ⟨_, of_hideAll _ e1, rfl⟩ e (fun q => by cases q) fin
  | di e1 _ _ _ => exact kia_one kitx_dict X ⟨_, of_hideAll _ e1, rfl⟩ e (fun q => by cases q) fin
  | db e1 _ _ _ => exact kia_one kitx_dict X ⟨_, of_hideAll _ e1, rfl⟩ e (fun q => by cases q) fin
  | inst e1 e2 _ _ =>
    obtain ⟨od, I, _⟩ := inst_at (of_hideAll _ e1) (hide_ns e2)
    exact kia_one (kitx_own hc.ga hc.hd hc.cls hc.gs hc.tk hc.ob) X I e (fun q => by cases q) fin
  | cell _ => exact hc.elim
  | raw _ => exact hc.elim
  | obj _ => exact hc.elim

/-! own objects: read, method -/
theorem RpM.get {w : World} {h : Heap} {x : Str} {d : V} {m : Str → Option Value} {fs : List (Str × V)} (r : RpM w h m fs) (e : fs.lookup x = some d) : ∃ v, m x = some v ∧ Rp w h v d := by
  induction fs with
  | nil => cases e
  | cons p fs ih =>
    obtain ⟨y, z⟩ := p
    replace r := r.inv; obtain ⟨_, hm, hr, r⟩ := r
    rw [List.lookup_cons] at e
    split at e
    · rename_i q; cases e
      rw [beq_iff_eq.mp q]
      exact ⟨_, hm, hr⟩
    · exact ih r e

theorem p1_attr {C : Addr} {fs : List (Str × V)} {name : Str} {d : V} {attr : Option Value} (hl : fs.lookup name = some d) (hg : plainGet (HpK c.w.params) C name = true) (hh : hasDictIn (HpK c.w.params) C = true)
    (ha : findIn (HpK c.w.params) (.ref C) name = some attr) (hn : noGet (HpK c.w.params) attr = true) (p : Φ d σ) : P1 c n (.inst C fs) σ (fun o => getAttr o name true) Φ := by
  refine ⟨fun A own s v Q E ar ow r k => ?_⟩
  replace r := r.inv; obtain ⟨_, _, _, rfl, e1, e2, _, rf⟩ := r
  obtain ⟨u, h1, h2⟩ := rf.get hl
  obtain ⟨od, I, hlk⟩ := inst_at (of_hideAll _ e1) (hide_ns e2)
  exact get_value (c.KIn.keeps ow.stays) I (plainGet_of hg).1 (findObj_own hh ha hn ((hlk name).trans (by rw [h1]))) h2.handed (k u d σ own s.heap _ p ow (.refl _ _ _) h2)

theorem meth_inst {C f : Addr} {fs : List (Str × V)} {name : Str} (hl : fs.lookup name = none) (hg : plainGet (HpK c.w.params) C name = true) (hf : findIn (HpK c.w.params) (.ref C) name = some (some (.ref f))) (ht : isFn (HpK c.w.params) (.ref f) = true)
    {A : Around} {own : List Addr} {s : Shared} {v : Value} {pl : Sem Bool} {Q : Value × List Value → Shared → Prop} {E : Value → Shared → Prop} (ow : Ow c own σ s.heap) (r : Rp c.w (hideAll s.heap own) v (.inst C fs)) (h : Q (.ref f, [v]) s) : wpAny c.M A (getMethod v name pl) Q E s := by
  replace r := r.inv; obtain ⟨_, _, _, rfl, e1, e2, q, rf⟩ := r
  obtain ⟨od, I, hlk⟩ := inst_at (of_hideAll _ e1) (hide_ns e2)
  exact method_fn (c.KIn.keeps ow.stays) I (plainGet_of hg).1 (plainGet_of hg).2 hf (beq_iff_eq.mp ht) (by
    show (lookIn name od).map _ = _
    rw [hlk name, q name hl]; rfl) h

/-- what a call of a method of an own object asks -/
structure MethI (c : Cx) (d : V) (name : Str) (f : Addr) : Prop where
  at_ : ∃ C fs, d = .inst C fs ∧ fs.lookup name = none ∧ plainGet (HpK c.w.params) C name = true ∧ findIn (HpK c.w.params) (.ref C) name = some (some (.ref f))
  fn : isFn (HpK c.w.params) (.ref f) = true
  keep : keepIn (HpK c.w.params) (.ref f) = true
theorem ev_meth0 {o : Expr} {name : Str} {apos pos : Pos} {pl : Sem Bool} (h : EV c env n Γ σ (eval o env) fun d σ₁ => ∃ f, MethI c d name f ∧ CV c n (.ref f) [d] σ₁ Φ)
    (he : eval (.Call (.Attribute o name apos) [] [] pos) env = (do
      let ov ← eval o env
      standAt apos.atName
      let (f, first) ← holding [ov] (getMethod ov name pl)
      callWith pos f first (backTo pos (starEach [] env)) (backToKw pos (keywordEach [] env))) := by rfl) : EV c env n Γ σ (eval (.Call (.Attribute o name apos) [] [] pos) env) Φ := by
  refine ⟨fun A own s Q E ar bd k => ?_⟩
  refine methodCall_KW (kws := []) (h.run A own s _ E ar bd fun v d σ₁ own₁ h₁ tk₁ p₁ ow₁ st₁ r₁ => ?_) he
  obtain ⟨f, ⟨⟨C, fs, rfl, q1, q2, q3⟩, q4, q5⟩, hc⟩ := p₁
  refine meth_inst (s := { s with heap := h₁, toks := tk₁ }) q1 q2 q3 q4 ow₁ r₁ ?_
  refine callWith_K0 (K := HpK c.w.params) (c.KIn.keeps ow₁.stays) q5 ?_
  exact hc.run A own₁ _ [v] Q E ar ow₁ (.cons r₁ .nil) fun v d σ₂ own₂ h₂ tk₂ p₂ ow₂ st₂ r₂ => k v d σ₂ own₂ h₂ tk₂ p₂ ow₂ (st₁.trans st₂ bd.ow.old) r₂
theorem ev_meth {o e : Expr} {rest : List Expr} {name : Str} {apos pos : Pos} {pl : Sem Bool} (h : EV c env n Γ σ (eval o env) fun d σ₁ => ∃ f, MethI c d name f ∧ LV c env n Γ σ₁ (spliced (backTo pos (starEach (e :: rest) env))) fun ds σ₂ => CV c n (.ref f) (d :: ds) σ₂ Φ)
    (he : eval (.Call (.Attribute o name apos) (e :: rest) [] pos) env = (do
      let ov ← eval o env
      standAt apos.atName
      let (f, first) ← holding [ov] (getMethod ov name pl)
      callWith pos f first (backTo pos (starEach (e :: rest) env)) (backToKw pos (keywordEach [] env))) := by rfl)
    (hs : starEach (e :: rest) env = (false, eval e env) :: starEach rest env := by rfl) (hplain : (backTo pos (starEach rest env)).any (·.1) = false := by rfl) : EV c env n Γ σ (eval (.Call (.Attribute o name apos) (e :: rest) [] pos) env) Φ := by
  refine ⟨fun A own s Q E ar bd k => ?_⟩
  refine methodCall_KW (kws := []) (h.run A own s _ E ar bd fun v d σ₁ own₁ h₁ tk₁ p₁ ow₁ st₁ r₁ => ?_) he
  obtain ⟨f, ⟨⟨C, fs, rfl, q1, q2, q3⟩, q4, q5⟩, hc⟩ := p₁
  refine meth_inst (s := { s with heap := h₁, toks := tk₁ }) q1 q2 q3 q4 ow₁ r₁ ?_
  refine callWith_K (h₀ := c.hb) c.KIn q5 ?_ hs hplain
  refine hc.run A own₁ _ _ E ar (bd.step st₁ ow₁) fun vs ds σ₂ own₂ h₂ tk₂ p₂ ow₂ st₂ r₂ => ⟨c.KIn.keeps ow₂.stays, ?_⟩
  exact p₂.run A own₂ _ (v :: vs) Q E ar ow₂ (.cons (r₁.mono (ow₁.stp st₂)) r₂) fun v d σ₃ own₃ h₃ tk₃ p₃ ow₃ st₃ r₃ => k v d σ₃ own₃ h₃ tk₃ p₃ ow₃ ((st₁.trans st₂ bd.ow.old).trans st₃ bd.ow.old) r₃
end
end Mine
end

section
open PySem PySem.W PyProof.Rows PySem.Calls PySem.Spec
set_option maxRecDepth 100000
namespace Mine

section
variable {c : Cx} {env : Env} {n : Nat} {Γ : Gm} {σ : St} {Φ : V → St → Prop} {Ψ : Fl → Gm → St → Prop}

/-! freezing -/
theorem Ow.drop {own : List Addr} {σ σ₁ : St} {h : Heap} (o : Ow c own σ h) (hs : σ₁.Sublist σ) (a : Addr) (ha : a ∉ adr σ₁) : Ow c (own.filter (· != a)) σ₁ h := by
  have st : (hideAll h own).StaysIn (hideAll h (own.filter (· != a))) := hide_less fun z q => (List.mem_filter.mp q).1
  refine ⟨fun b x e => st b x (o.top b x e), fun z q => List.mem_filter.mpr ⟨o.sub z ((hs.map _).subset q), ?_⟩, o.nd.sublist (hs.map _), fun z q => o.old z (List.mem_filter.mp q).1, fun p hp => ?_, fun q => o.sys ((hs.map _).subset q)⟩
  · simp only [bne_iff_ne, ne_eq]; exact fun e => ha (e ▸ q)
  · obtain ⟨ob, h1, h2⟩ := o.cells p (hs.subset hp)
    exact ⟨ob, h1, h2.mono st⟩
theorem drop_get {own : List Addr} {h : Heap} {a : Addr} {o : Obj} (e : h.get? a = some o) : (hideAll h (own.filter (· != a))).get? a = some o :=
  hideAll_get _ e fun q => by simp at q
theorem drop_stays {own : List Addr} {h : Heap} (a : Addr) : (hideAll h own).StaysIn (hideAll h (own.filter (· != a))) := hide_less fun z q => (List.mem_filter.mp q).1

theorem MoIs.attrs_inv {w : World} {h : Heap} {o : Obj} {fs : List (Str × V)} (x : MoIs w h o (.attrs fs)) : ∃ (es : Array DictEntry) (n : Nat) (m : Str → Option Value), o.data = .dict es n ∧ StrKeys es ∧ UniqKeys es ∧ (∀ x, nsFind es x = m x) ∧ (∀ x, fs.lookup x = none → m x = none) ∧ RpM w h m fs := by
  cases x with
  | attrs a b c d e r => exact ⟨_, _, _, a, b, c, d, e, r⟩

/-- an own object is made: its dict is a cell while __init__ runs, then all is frozen -/
theorem fc_new {C fI : Addr} {ds : List V} (hm : makesIn (HpK c.w.params) C = true) (hi : findIn (HpK c.w.params) (.ref C) "__init__" = some (some (.ref fI))) (hf : typeIn (HpK c.w.params) (.ref fI) = some (.type "function"))
    (h : ∀ dx, FC c n (.ref fI) (.raw C dx :: ds) (σ ++ [(dx, .attrs [])]) fun d σ' => d = .none ∧ ∃ fs σ₁, σ' = σ₁ ++ [(dx, .attrs fs)] ∧ Φ (.inst C fs) σ₁) : FC c (n + 1) (.ref C) ds σ Φ := by
  refine ⟨fun A own s vs R ar ow r k => ?_⟩
  have X := c.KIn.keeps ow.stays
  obtain ⟨hp, g, d, t, os⟩ := s
  refine make_core (makes_of X hm) (looks_findIn X hi) (fun self => bind_fn X self hf) (.inl rfl) ?_
  have ow1 : Ow c (hp.objs.size :: own) (σ ++ [(hp.objs.size, .attrs [])]) (hp.push emptyDict) :=
    ow.newCell (.attrs (m := fun _ => none) rfl (fun _ q => by simp at q) (by unfold UniqKeys; simp) (fun _ => rfl) (fun _ _ => rfl) .nil) rfl
  have hsz : (hp.push emptyDict).objs.size = hp.objs.size + 1 := Heap.size_push ..
  have ow2 := ow1.push (instObj C hp.objs.size)
  have st2 : Stp (adr σ) own hp (adr (σ ++ [(hp.objs.size, .attrs [])])) (hp.objs.size :: own) ((hp.push emptyDict).push (instObj C hp.objs.size)) :=
    (Stp.newCell (m := .attrs [])).trans (.quiet (Kp.push [] _ _)) ow.old
  have hx : (hideAll ((hp.push emptyDict).push (instObj C hp.objs.size)) (hp.objs.size :: own)).get? (hp.objs.size + 1) = some (instObj C hp.objs.size) := by
    have := hide_new (c := c) (σ := σ ++ [(hp.objs.size, .attrs [])]) ow1 (ob := instObj C hp.objs.size) rfl
    rw [hsz] at this; exact this
  refine (h hp.objs.size).run _ _ _ (.ref (hp.objs.size + 1) :: vs) _ ⟨ar.handled, ?_, ?_⟩ ow2 (.cons (.raw hx) (r.mono (ow.stp st2))) fun v d' σ' own' h' tk' p ow' st' r' => ?_
  · have := ar.depth
    show (A.under (.builtin "type.__call__" ⟨.ref C :: vs, []⟩)).depth + 3 * n ≤ 600
    rw [depth_under_make]; omega
  · have := ar.units
    show (A.under (.builtin "type.__call__" ⟨.ref C :: vs, []⟩)).units + 100 * n ≤ 9000
    rw [units_under_make]; omega
  · obtain ⟨rfl, fs, σ₁, rfl, hΦ⟩ := p
    (first | obtain rfl := r'.inv | obtain ⟨_, rfl⟩ := r'.inv | cases r')
    refine ⟨rfl, ?_⟩
    have sub : σ₁.Sublist (σ₁ ++ [(hp.objs.size, MO.attrs fs)]) := List.sublist_append_left _ _
    have hnd : hp.objs.size ∉ adr σ₁ := fun q => by
      have := ow'.nd
      rw [adr, List.map_append, List.nodup_append] at this
      exact this.2.2 _ q _ (by simp) rfl
    have ow3 := ow'.drop sub hp.objs.size hnd
    obtain ⟨ob, hob, hmo⟩ := ow'.cells (hp.objs.size, .attrs fs) (by simp)
    have stx := st'.stays (fun z q => ow2.sub z q)
    obtain ⟨es, en, m, q1, q2, qu, q3, q4, q5⟩ := hmo.attrs_inv
    have inst : Rp c.w (hideAll h' (own'.filter (· != hp.objs.size))) (.ref (hp.objs.size + 1)) (.inst C fs) :=
      .inst (drop_stays _ _ _ (stx _ _ hx)) ⟨ob, es, en, drop_get hob, q1, q2, q3⟩ q4 (q5.mono (drop_stays _))
    have st3 := st2.trans st' ow.old
    refine k _ (.inst C fs) σ₁ _ h' tk' hΦ ow3 ⟨st3.kp, fun z q => ?_, fun z q => st3.new z (List.mem_filter.mp q).1, fun z q => st3.xnew z ((sub.map _).subset q)⟩ inst
    rcases st3.sub z q with w | w
    · refine .inl (List.mem_filter.mpr ⟨w, ?_⟩)
      simp only [bne_iff_ne, ne_eq]
      exact fun e => not_new (ow.old z q) (e ▸ new_ge (Nat.le_refl _))
    · exact .inr w

/-- self.attr = e, in an __init__ -/
structure SetOk (w : World) (C : Addr) (name : Str) : Prop where
  sa : findIn (HpK w.params) (.ref C) "__setattr__" = some (some (.builtin "object.__setattr__"))
  po : plainOver (HpK w.params) C = true
  tk : takerIn (HpK w.params) C name = some none
  hd : hasDictIn (Mine.HpK w.params) C = true

theorem RpM.put {w : World} {h : Heap} {x : Str} {v : Value} {d : V} {m : Str → Option Value} {fs : List (Str × V)} (rm : RpM w h m fs) (hn : fs.lookup x = none) (r : Rp w h v d) : RpM w h (fun y => if y = x then some v else m y) (fs ++ [(x, d)]) := by
  induction fs with
  | nil => exact .cons (by simp) r .nil
  | cons p fs ih =>
    obtain ⟨y, e⟩ := p
    replace rm := rm.inv; obtain ⟨u, hm, hr, rr⟩ := rm
    rw [List.lookup_cons] at hn
    cases hxy : (x == y) with
    | true => rw [hxy] at hn; cases hn
    | false =>
      rw [hxy] at hn
      have hne : y ≠ x := fun q => by rw [q, beq_self_eq_true] at hxy; cases hxy
      exact .cons (by simp [hne, hm]) hr (ih rr hn)
theorem lookup_app {x y : Str} {d : V} : ∀ {fs : List (Str × V)}, (fs ++ [(x, d)]).lookup y = none → fs.lookup y = none ∧ y ≠ x
  | [], h => by
    refine ⟨rfl, fun q => ?_⟩
    subst q
    simp [List.lookup] at h
  | (z, e) :: fs, h => by
    rw [List.cons_append, List.lookup_cons] at h
    rw [List.lookup_cons]
    split at h
    · cases h
    · rename_i q
      exact lookup_app h

theorem x_setattr {o e : Expr} {attr : Str} {p' pos : Pos} (h : EV c env n Γ σ (eval e env) fun dv σ₁ => EV c env n Γ σ₁ (eval o env) fun db σ₂ =>
      ∃ C dx j fs, db = .raw C dx ∧ σ₂[j]? = some (dx, .attrs fs) ∧ SetOk c.w C attr ∧ fs.lookup attr = none ∧ fs.length ≤ 1000 ∧ Ψ .next Γ (σ₂.set j (dx, .attrs (fs ++ [(attr, dv)]))))
    (hs : swapsWith e (some (.Attribute o attr p')) pos.line env = pure false := by rfl) : XV c env n Γ σ (exec (.Assign [.Attribute o attr p'] e pos) env) Ψ := by
  refine ⟨fun A own s Q E ar bd k => ?_⟩
  refine plainObj_wpAny_Assign_Attribute (h.run A own s _ E ar bd fun v dv σ₁ own₁ h₁ tk₁ p ow₁ st₁ r₁ => ?_) hs
  have bd₁ := bd.step st₁ ow₁
  refine p.run A own₁ _ _ E ar bd₁ fun u db σ₂ own₂ h₂ tk₂ p₂ ow₂ st₂ r₂ => ?_
  refine goalG fun G kG => ?_
  obtain ⟨C, dx, j, fs, rfl, hj, so, hn, hlen, hΨ⟩ := p₂
  have X := c.KIn.keeps ow₂.stays
  obtain ⟨ob, hob, hmo⟩ := ow₂.at_ hj
  obtain ⟨es, en, m, q1, q2, qu, q3, q4, q5⟩ := hmo.attrs_inv
  have hns1 : h₂.Ns1 dx m := ⟨ob, es, en, hob, q1, q2, qu, q3⟩
  have hns := hns1.ns
  cases r₂ with
  | raw hx =>
    have hx := of_hideAll _ hx
    obtain ⟨od, I, hlk⟩ := inst_at hx hns
    obtain ⟨cd, hc, hd'⟩ := any_some so.hd
    refine kG (set_plain (s := { s with heap := h₂, toks := tk₂ }) X I so.sa (osa_open (s := { s with heap := h₂, toks := tk₂ + 1 }) X I so.po so.tk fun b => ?_))
    refine wpAny_bind (wpAny_pure (wpAny_bind (wpAny_bind (wpAny_loadPart hx (wpAny_bind ((looks_clsIn X hc).here ?_))))))
    rw [hd']
    refine wpAny_pure (a := some dx) (wpAny_bind (wpAny_pure (wpAny_bind ?_)))
    refine wpAny_nsSet1 (s := { s with heap := h₂, toks := tk₂ + 1 }) hns1 fun h' hn' sb => ?_
    have hn0 := hn'
    obtain ⟨ob', es', en', g1, g2, g3, gu, g4⟩ := hn'
    have st : (hideAll h₂ own₂).StaysIn (hideAll h' own₂) := hide_stays (Kp.same sb (.head _)) (x := [dx]) (fun z q => by simp at q; subst q; exact ow₂.sub _ (List.mem_map_of_mem (List.mem_of_getElem? hj))) fun _ q => .inl q
    obtain ⟨o1, o2⟩ := ow₂.set (m' := .attrs (fs ++ [(attr, dv)])) hj sb g1 (.attrs g2 g3 gu g4 (fun y q => by
      obtain ⟨w1, w2⟩ := lookup_app q
      simp [w2, q4 y w1]) (q5.put hn (r₁.mono (ow₁.stp st₂))))
    have hsize : es'.size ≤ sizeLine + 1 := by
      have w : Within (fun y => if y = attr then some v else m y) (attr :: fs.map (·.1)) := fun y hy => by
        by_cases q : y = attr
        · subst q; exact .head _
        · refine .tail _ ?_
          have hy' : m y ≠ none := by simpa [q] using hy
          cases hl : fs.lookup y with
          | none => exact absurd (q4 y hl) hy'
          | some d => exact List.mem_map_of_mem (f := (·.1)) (lookup_mem hl)
      obtain ⟨o3, es3, ep3, e1, e2, e3⟩ := hn0.count w
      rw [g1] at e1; cases e1
      rw [g2] at e2; cases e2
      simp at e3
      rw [sizeLine_eq]; omega
    refine wpAny_bind (wpAny_lookBehind g1 (by rw [g2]; exact pastItsLine_dict hsize) ?_)
    exact wpAny_pure (k .next .next Γ _ own₂ h' _ hΨ ((bd₁.step st₂ ow₂).step o2 o1) (((st₁.trans st₂ bd.ow.old).trans o2 bd.ow.old)).more .next)
end
end Mine
end

section
open PySem PySem.W PyProof.Rows PySem.Calls PySem.Spec
set_option maxRecDepth 100000
namespace Mine

/-! dicts -/
noncomputable def dl {K α : Type} [DecidableEq K] : List (K × α) → K → Option α
  | [], _ => none
  | (a, d) :: r, x => if a = x then some d else dl r x
noncomputable def dput {K α : Type} [DecidableEq K] : List (K × α) → K → α → List (K × α)
  | [], x, d => [(x, d)]
  | (a, e) :: r, x, d => if a = x then (a, d) :: r else (a, e) :: dput r x d

theorem dput_keys {K α : Type} [DecidableEq K] {x : K} {d : α} {y : K} : ∀ {l : List (K × α)}, y ∈ (dput l x d).map (·.1) ↔ y ∈ l.map (·.1) ∨ y = x
  | [] => by simp [dput]
  | (a, e) :: r => by
    unfold dput
    split
    · rename_i q; subst q; simp only [List.map_cons, List.mem_cons]; constructor
      · exact fun h => .inl h
      · rintro (h | h)
        · exact h
        · exact .inl h
    · simp only [List.map_cons, List.mem_cons, dput_keys (l := r)]; constructor
      · rintro (h | h | h)
        · exact .inl (.inl h)
        · exact .inl (.inr h)
        · exact .inr h
      · rintro ((h | h) | h)
        · exact .inl h
        · exact .inr (.inl h)
        · exact .inr (.inr h)
theorem dput_nodup {K α : Type} [DecidableEq K] {x : K} {d : α} : ∀ {l : List (K × α)}, (l.map (·.1)).Nodup → ((dput l x d).map (·.1)).Nodup
  | [], _ => by simp [dput]
  | (a, e) :: r, nd => by
    rw [List.map_cons, List.nodup_cons] at nd
    unfold dput
    split
    · rw [List.map_cons, List.nodup_cons]; exact nd
    · rename_i q
      rw [List.map_cons, List.nodup_cons]
      refine ⟨fun h => ?_, dput_nodup nd.2⟩
      rcases dput_keys.mp h with h | h
      · exact nd.1 h
      · exact q h
theorem dl_mem {K α : Type} [DecidableEq K] {x : K} {d : α} : ∀ {l : List (K × α)}, dl l x = some d → (x, d) ∈ l
  | (a, e) :: r, h => by
    unfold dl at h
    split at h
    · rename_i q; cases h; subst q; exact .head _
    · exact .tail _ (dl_mem h)
theorem dl_none {K α : Type} [DecidableEq K] {x : K} : ∀ {l : List (K × α)}, dl l x = none → x ∉ l.map (·.1)
  | [], _ => by simp
  | (a, e) :: r, h => by
    unfold dl at h
    split at h
    · cases h
    · rename_i q
      rw [List.map_cons, List.mem_cons]
      rintro (z | z)
      · exact q z.symm
      · exact dl_none h z

section
variable {w : World} {h : Heap} {k : Kd}
/-- keyed values -/
structure KV (w : World) (h : Heap) {K : Type} (kvs : List (K × Value)) (ds : List (K × V)) : Prop where
  keys : kvs.map (·.1) = ds.map (·.1)
  vals : Rps w h (kvs.map (·.2)) (ds.map (·.2))
theorem KV.nil {K : Type} : KV w h ([] : List (K × Value)) [] := ⟨rfl, .nil⟩
theorem KV.cons {K : Type} {x : K} {v : Value} {d : V} {kvs : List (K × Value)} {ds : List (K × V)} (r : Rp w h v d) (q : KV w h kvs ds) : KV w h ((x, v) :: kvs) ((x, d) :: ds) :=
  ⟨by simp [q.keys], .cons r q.vals⟩
theorem KV.inv {K : Type} {x : K} {v : Value} {kvs : List (K × Value)} {ds : List (K × V)} (q : KV w h ((x, v) :: kvs) ds) : ∃ d r, ds = (x, d) :: r ∧ Rp w h v d ∧ KV w h kvs r := by
  obtain ⟨h1, h2⟩ := q
  cases ds with
  | nil => cases h1
  | cons p r =>
    obtain ⟨y, d⟩ := p
    simp only [List.map_cons, List.cons.injEq] at h1
    obtain ⟨rfl, h1⟩ := h1
    cases h2 with
    | cons r1 r2 => exact ⟨d, r, rfl, r1, h1, r2⟩
theorem KV.mono {h' : Heap} (hs : h.StaysIn h') {K : Type} {kvs : List (K × Value)} {ds : List (K × V)} (q : KV w h kvs ds) : KV w h' kvs ds := ⟨q.keys, q.vals.mono hs⟩
theorem KV.length {K : Type} {kvs : List (K × Value)} {ds : List (K × V)} (q : KV w h kvs ds) : kvs.length = ds.length := by
  have := congrArg List.length q.keys
  simpa using this
theorem KV.at_ {K : Type} [DecidableEq K] (x : K) : ∀ {kvs : List (K × Value)} {ds : List (K × V)}, KV w h kvs ds → (valueAt kvs x = none ∧ dl ds x = none) ∨ ∃ v d, valueAt kvs x = some v ∧ dl ds x = some d ∧ Rp w h v d
  | [], ds, q => by
    cases ds with
    | nil => exact .inl ⟨rfl, rfl⟩
    | cons p r => cases q.keys
  | (y, v) :: kvs, ds, q => by
    obtain ⟨d, r, rfl, r1, r2⟩ := q.inv
    unfold valueAt
    unfold dl
    by_cases e : y = x
    · subst e
      exact .inr ⟨v, d, by simp, by simp, r1⟩
    · have e' : decide (y = x) = false := decide_eq_false e
      simp only [List.find?_cons, e', if_neg e]
      exact KV.at_ x r2
theorem KV.put {K : Type} [DecidableEq K] {x : K} {v : Value} {d : V} (r : Rp w h v d) : ∀ {kvs : List (K × Value)} {ds : List (K × V)}, KV w h kvs ds → (kvs.map (·.1)).Nodup → KV w h (stored kvs x v) (dput ds x d)
  | [], ds, q, _ => by
    cases ds with
    | nil => exact .cons r .nil
    | cons p r => cases q.keys
  | (y, u) :: kvs, ds, q, nd => by
    obtain ⟨e, ds', rfl, r1, r2⟩ := q.inv
    rw [List.map_cons, List.nodup_cons] at nd
    have ih := KV.put (x := x) r r2 nd.2
    unfold stored dput
    by_cases z : y = x
    · subst z
      simp only [List.any_cons, decide_true, Bool.true_or, if_true, List.map_cons]
      rw [map_store_of_not_mem kvs _ v nd.1]
      exact .cons r r2
    · simp only [List.any_cons, decide_eq_false z, Bool.false_or, List.map_cons, if_neg z]
      unfold stored at ih
      split
      · rename_i g; rw [if_pos g] at ih; exact .cons r1 ih
      · rename_i g; rw [if_neg g] at ih; exact .cons r1 ih

theorem RpE.kvs {k : Kd} {es : List DictEntry} {ds : List (k.T × V)} (r : RpE w h k es ds) : ∃ kvs : List (k.T × Value), Pairs (k.knd w) es kvs ∧ (∀ e ∈ es, ∃ x, (k.knd w).is x e.key = true ∧ e.hash = (k.knd w).hash x) ∧ KV w h kvs ds := by
  induction ds generalizing es with
  | nil => obtain rfl := r.inv; exact ⟨[], .nil, fun _ q => (nomatch q), .nil⟩
  | cons p ds ih =>
    obtain ⟨x, d⟩ := p
    replace r := r.inv; obtain ⟨e, _, rfl, q, r, rr⟩ := r
    obtain ⟨kvs, p1, p2, p3⟩ := ih rr
    refine ⟨(x, e.val) :: kvs, .cons q.1 rfl p1, fun e' he => ?_, .cons r p3⟩
    rcases List.mem_cons.mp he with rfl | he
    · exact ⟨x, q⟩
    · exact p2 e' he
theorem RpE.of {es : List DictEntry} {kvs : List (k.T × Value)} {ds : List (k.T × V)} (ps : Pairs (k.knd w) es kvs) (hk : ∀ e ∈ es, ∃ x, (k.knd w).is x e.key = true ∧ e.hash = (k.knd w).hash x) (q : KV w h kvs ds) : RpE w h k es ds := by
  induction ps generalizing ds with
  | nil =>
    cases ds with
    | nil => exact .nil
    | cons p r => cases q.keys
  | cons p1 p2 p3 ih =>
    obtain ⟨d, r, rfl, r1, r2⟩ := q.inv
    refine .cons ⟨p1, ?_⟩ (by rw [p2]; exact r1) (ih (fun e' he => hk e' (.tail _ he)) r2)
    obtain ⟨y, y1, y2⟩ := hk _ (.head _)
    rw [y2, (k.knd w).inj _ _ _ y1 p1]
/-- a dict as the library has it, and back -/
theorem dict_of {a : Addr} {es : List DictEntry} {n : Nat} {h₁ : Heap} {ds : List (k.T × V)} (e : h₁.get? a = some (dictOf es n)) (r : RpE w h k es ds) (nd : (ds.map (·.1)).Nodup) : ∃ kvs : List (k.T × Value), h₁.DictOf (k.knd w) a kvs ∧ KV w h kvs ds := by
  obtain ⟨kvs, p1, p2, p3⟩ := r.kvs
  exact ⟨kvs, ⟨_, _, _, e, ⟨rfl, rfl, rfl⟩, rfl, fun x hx => p2 x (by simpa using hx), by simpa using p1, p3.keys ▸ nd⟩, p3⟩
theorem dict_to {a : Addr} {kvs : List (k.T × Value)} {h₁ : Heap} {ds : List (k.T × V)} (e : h₁.DictOf (k.knd w) a kvs) (q : KV w h kvs ds) : ∃ es n, h₁.get? a = some (dictOf es n) ∧ RpE w h k es ds ∧ (ds.map (·.1)).Nodup := by
  obtain ⟨⟨cls, dct, data, sl⟩, es, ep, h1, ⟨x1, x2, x3⟩, h3, h4, h5, h6⟩ := e
  simp only at x1 x2 x3 h3
  subst x1 x2 x3 h3
  exact ⟨es.toList, ep, by simpa [dictOf] using h1, .of h5 (fun e he => h4 e (by simpa using he)) q, q.keys ▸ h6⟩
theorem V.dict_inv {v : Value} {ds : List (k.T × V)} (r : Rp w h v (.dict k ds)) : ∃ a es n, v = .ref a ∧ h.get? a = some (dictOf es n) ∧ RpE w h k es ds ∧ (ds.map (·.1)).Nodup ∧ (a == sysModules) = false := by
  cases k <;> (first | obtain rfl := r.inv | obtain ⟨_, rfl⟩ := r.inv | cases r) <;> exact ⟨_, _, _, rfl, ‹_›, ‹_›, ‹_›, ‹_›⟩
theorem V.dict_mk {a : Addr} {es : List DictEntry} {n : Nat} {ds : List (k.T × V)} (e : h.get? a = some (dictOf es n)) (r : RpE w h k es ds) (nd : (ds.map (·.1)).Nodup) (q : (a == sysModules) = false) : Rp w h (.ref a) (.dict k ds) := by
  cases k
  · exact .ds e r nd q
  · exact .di e r nd q
  · exact .db e r nd q
theorem V.key_is {v : Value} {x : k.T} (r : Rp w h v (.key k x)) : (k.knd w).is x v = true := by
  cases k <;> (first | obtain rfl := r.inv | obtain ⟨_, rfl⟩ := r.inv | cases r)
  · simp [Kd.knd, PySem.strKind, Value.isStrOf]
  · simp [Kd.knd, PySem.intKind, Value.isInt]
  · simp [Kd.knd, PySem.W.bytesKind, PySem.W.isBytes]
end
section
variable {c : Cx} {env : Env} {n : Nat} {Γ : Gm} {σ : St} {Φ : V → St → Prop} {Ψ : Fl → Gm → St → Prop}

/-- a dict: frozen, or a cell -/
noncomputable def IsD (σ : St) (d : V) (k : Kd) (ds : List (k.T × V)) : Prop := d = V.dict k ds ∨ ∃ (a : Addr) (j : Nat), d = V.cell a ∧ σ[j]? = some (a, MO.dict k ds)
theorem IsD.at_ {a : Addr} {k : Kd} {ds : List (k.T × V)} (j : Nat) (h : σ[j]? = some (a, .dict k ds)) : IsD σ (.cell a) k ds := .inr ⟨a, j, rfl, h⟩
theorem IsD.inv {d : V} {k : Kd} {ds : List (k.T × V)} (i : IsD σ d k ds) {own : List Addr} {h : Heap} (ow : Ow c own σ h) {v : Value} (r : Rp c.w (hideAll h own) v d) :
    ∃ a es m, v = .ref a ∧ h.get? a = some (dictOf es m) ∧ RpE c.w (hideAll h own) k es ds ∧ (ds.map (·.1)).Nodup ∧ (a == sysModules) = false := by
  rcases i with rfl | ⟨a, j, rfl, hj⟩
  · obtain ⟨a, es, m, h1, h2, h3⟩ := V.dict_inv r
    exact ⟨a, es, m, h1, of_hideAll _ h2, h3⟩
  · (first | obtain rfl := r.inv | obtain ⟨_, rfl⟩ := r.inv | cases r)
    obtain ⟨ob, h1, h2⟩ := ow.at_ hj
    cases h2 with
    | dict r nd => exact ⟨a, _, _, rfl, h1, r, nd, ow.notSys hj⟩

theorem p2_dget {value slice : Expr} {d dk : V} (k : Kd) {ds : List (k.T × V)} {x : k.T} {e : V} (i : IsD σ d k ds) (hk : dk = .key k x) (hl : dl ds x = some e) (p : Φ e σ)
    (hs : ∀ l v, subscripted slice false (.ref l) v = operate [.ref l, v] (getItem (.ref l) v) := by intro _ _; with_unfolding_all rfl) : P2 c n d dk σ (subscriptTail value slice) Φ := by
  refine ⟨fun A own s u v Q E ar ow ra rb kt => ?_⟩
  subst hk
  obtain ⟨a, es, m, rfl, e1, e2, e3, e4⟩ := i.inv ow ra
  obtain ⟨kvs, hd, kv⟩ := dict_of (w := c.w) e1 e2 e3
  rcases kv.at_ x with ⟨h1, h2⟩ | ⟨v', d', h1, h2, h3⟩
  · rw [hl] at h2; cases h2
  · rw [hl] at h2; cases h2
    exact tail_any hd.typeIs slot_dict_getitem.lookup (wpAny_getItem_of (V.key_is rb) hd.mapOf h1 (kt v' e σ own s.heap _ p ow (.refl _ _ _) h3)) (hs _ _)
theorem p2_in {d dk : V} (k : Kd) {ds : List (k.T × V)} {x : k.T} (i : IsD σ d k ds) (hk : dk = .key k x) (p : Φ (.bool (dl ds x).isSome) σ) : P2 c n dk d σ (compareOp .In) Φ := by
  refine ⟨fun A own s u v Q E ar ow rb ra kt => ?_⟩
  subst hk
  obtain ⟨a, es, m, rfl, e1, e2, e3, e4⟩ := i.inv ow ra
  obtain ⟨kvs, hd, kv⟩ := dict_of (w := c.w) e1 e2 e3
  have e : (valueAt kvs x).isSome = (dl ds x).isSome := by
    rcases kv.at_ x with ⟨h1, h2⟩ | ⟨v', d', h1, h2, h3⟩ <;> rw [h1, h2] <;> rfl
  exact wpAny_in_of (V.key_is rb) e4 hd.mapOf (by rw [e]; exact kt _ _ σ own s.heap _ p ow (.refl _ _ _) (.bool _))
theorem p2_notin {d dk : V} (k : Kd) {ds : List (k.T × V)} {x : k.T} (i : IsD σ d k ds) (hk : dk = .key k x) (p : Φ (.bool (!(dl ds x).isSome)) σ) : P2 c n dk d σ (compareOp .NotIn) Φ := by
  refine ⟨fun A own s u v Q E ar ow rb ra kt => ?_⟩
  subst hk
  obtain ⟨a, es, m, rfl, e1, e2, e3, e4⟩ := i.inv ow ra
  obtain ⟨kvs, hd, kv⟩ := dict_of (w := c.w) e1 e2 e3
  have e : (valueAt kvs x).isSome = (dl ds x).isSome := by
    rcases kv.at_ x with ⟨h1, h2⟩ | ⟨v', d', h1, h2, h3⟩ <;> rw [h1, h2] <;> rfl
  exact wpAny_notIn_of (V.key_is rb) e4 hd.mapOf (by rw [e]; exact kt _ _ σ own s.heap _ p ow (.refl _ _ _) (.bool _))

/-- the method of a datum -/
structure MOk (c : Cx) (σ : St) (d : V) (name : Str) (id : String) : Prop where
  run : ∀ (A : Around) (own : List Addr) (s : Shared) (v : Value) (pl : Sem Bool) (Q : Value × List Value → Shared → Prop) (E : Value → Shared → Prop), Ow c own σ s.heap → Rp c.w (hideAll s.heap own) v d → Q (.builtin id, [v]) s → wpAny c.M A (getMethod v name pl) Q E s
theorem ev_methB {o e : Expr} {rest : List Expr} {name : Str} {apos pos : Pos} {pl : Sem Bool} (h : EV c env n Γ σ (eval o env) fun d σ₁ => ∃ id, MOk c σ₁ d name id ∧ LV c env n Γ σ₁ (spliced (backTo pos (starEach (e :: rest) env))) fun ds σ₂ => CV c n (.builtin id) (d :: ds) σ₂ Φ)
    (he : eval (.Call (.Attribute o name apos) (e :: rest) [] pos) env = (do
      let ov ← eval o env
      standAt apos.atName
      let (f, first) ← holding [ov] (getMethod ov name pl)
      callWith pos f first (backTo pos (starEach (e :: rest) env)) (backToKw pos (keywordEach [] env))) := by rfl)
    (hs : starEach (e :: rest) env = (false, eval e env) :: starEach rest env := by rfl) (hplain : (backTo pos (starEach rest env)).any (·.1) = false := by rfl) : EV c env n Γ σ (eval (.Call (.Attribute o name apos) (e :: rest) [] pos) env) Φ := by
  refine ⟨fun A own s Q E ar bd k => ?_⟩
  refine methodCall_KW (kws := []) (h.run A own s _ E ar bd fun v d σ₁ own₁ h₁ tk₁ p₁ ow₁ st₁ r₁ => ?_) he
  obtain ⟨id, q, hc⟩ := p₁
  refine q.run A own₁ _ v pl _ E ow₁ r₁ ?_
  refine callWith_method1 (hc.run A own₁ _ _ E ar (bd.step st₁ ow₁) fun vs ds σ₂ own₂ h₂ tk₂ p₂ ow₂ st₂ r₂ => ?_) hs hplain
  exact p₂.run A own₂ _ (v :: vs) Q E ar ow₂ (.cons (r₁.mono (ow₁.stp st₂)) r₂) fun v d σ₃ own₃ h₃ tk₃ p₃ ow₃ st₃ r₃ => k v d σ₃ own₃ h₃ tk₃ p₃ ow₃ ((st₁.trans st₂ bd.ow.old).trans st₃ bd.ow.old) r₃
theorem ev_methB0 {o : Expr} {name : Str} {apos pos : Pos} {pl : Sem Bool} (h : EV c env n Γ σ (eval o env) fun d σ₁ => ∃ id, MOk c σ₁ d name id ∧ CV c n (.builtin id) [d] σ₁ Φ)
    (he : eval (.Call (.Attribute o name apos) [] [] pos) env = (do
      let ov ← eval o env
      standAt apos.atName
      let (f, first) ← holding [ov] (getMethod ov name pl)
      callWith pos f first (backTo pos (starEach [] env)) (backToKw pos (keywordEach [] env))) := by rfl) : EV c env n Γ σ (eval (.Call (.Attribute o name apos) [] [] pos) env) Φ := by
  refine ⟨fun A own s Q E ar bd k => ?_⟩
  refine methodCall_KW (kws := []) (h.run A own s _ E ar bd fun v d σ₁ own₁ h₁ tk₁ p₁ ow₁ st₁ r₁ => ?_) he
  obtain ⟨id, q, hc⟩ := p₁
  refine q.run A own₁ _ v pl _ E ow₁ r₁ ?_
  refine callWith_method0 (hc.run A own₁ _ _ Q E ar ow₁ (.cons r₁ .nil) fun v d σ₂ own₂ h₂ tk₂ p₂ ow₂ st₂ r₂ => ?_)
  exact k v d σ₂ own₂ h₂ tk₂ p₂ ow₂ (st₁.trans st₂ bd.ow.old) r₂

theorem mok_get {d : V} (k : Kd) {ds : List (k.T × V)} (i : IsD σ d k ds) : MOk c σ d "get" "dict.get" := by
  refine ⟨fun A own s v pl Q E ow r h => ?_⟩
  obtain ⟨a, es, m, rfl, e1, e2, e3, e4⟩ := i.inv ow r
  obtain ⟨kvs, hd, kv⟩ := dict_of (w := c.w) e1 e2 e3
  exact getMethod_builtin hd.typeIs PySem.F.plainAttrs_dict F.slot_dict_get F.type_dict_get hd.mapOf.noDict h
theorem cv_get {d dk : V} (k : Kd) {ds : List (k.T × V)} {x : k.T} (i : IsD σ d k ds) (hk : dk = .key k x) (p : Φ ((dl ds x).getD .none) σ) : CV c n (.builtin "dict.get") [d, dk] σ Φ := by
  refine ⟨fun A own s vs Q E ar ow r kt => ?_⟩
  subst hk
  replace r := r.inv; obtain ⟨_, _, rfl, ra, r⟩ := r
  replace r := r.inv; obtain ⟨_, _, rfl, rb, r⟩ := r
  (first | obtain rfl := r.inv | obtain ⟨_, rfl⟩ := r.inv | cases r)
  obtain ⟨a, es, m, rfl, e1, e2, e3, e4⟩ := i.inv ow ra
  obtain ⟨kvs, hd, kv⟩ := dict_of (w := c.w) e1 e2 e3
  refine call_meetsIn PySem.F.slot_dict_get hd.typeIs PySem.F.entry_dict_get (PySem.F.args_dict_get_2 _ _) (meets_dict_get (k.knd c.w) _ (V.key_is rb) e4) ⟨_, hd.mapOf, ?_⟩
  refine kt _ _ σ own s.heap _ p ow (.refl _ _ _) ?_
  rcases kv.at_ x with ⟨h1, h2⟩ | ⟨v', d', h1, h2, h3⟩
  · rw [h1, h2]; exact .none
  · rw [h1, h2]; exact h3
theorem cv_getD {d dk dd : V} (k : Kd) {ds : List (k.T × V)} {x : k.T} (i : IsD σ d k ds) (hk : dk = .key k x) (p : Φ ((dl ds x).getD dd) σ) : CV c n (.builtin "dict.get") [d, dk, dd] σ Φ := by
  refine ⟨fun A own s vs Q E ar ow r kt => ?_⟩
  subst hk
  replace r := r.inv; obtain ⟨_, _, rfl, ra, r⟩ := r
  replace r := r.inv; obtain ⟨_, _, rfl, rb, r⟩ := r
  replace r := r.inv; obtain ⟨_, _, rfl, rc, r⟩ := r
  (first | obtain rfl := r.inv | obtain ⟨_, rfl⟩ := r.inv | cases r)
  obtain ⟨a, es, m, rfl, e1, e2, e3, e4⟩ := i.inv ow ra
  obtain ⟨kvs, hd, kv⟩ := dict_of (w := c.w) e1 e2 e3
  refine call_meetsIn PySem.F.slot_dict_get hd.typeIs PySem.F.entry_dict_get (PySem.F.args_dict_get_3 _ _ _) (meets_dict_get_default (k.knd c.w) _ (V.key_is rb) e4 _) ⟨_, hd.mapOf, ?_⟩
  refine kt _ _ σ own s.heap _ p ow (.refl _ _ _) ?_
  rcases kv.at_ x with ⟨h1, h2⟩ | ⟨v', d', h1, h2, h3⟩
  · rw [h1, h2]; exact rc
  · rw [h1, h2]; exact h3
/-- d[k] = v -/
theorem s3_dict {a : Addr} {dk dv : V} {Φ : St → Prop} (k : Kd) {ds : List (k.T × V)} {x : k.T} (j : Nat) (hc : σ[j]? = some (a, .dict k ds)) (hk : dk = .key k x) (hn : ds.length ≤ 10000) (p : Φ (σ.set j (a, .dict k (dput ds x dv)))) : S3 c n dv (.cell a) dk σ (fun v o i => setItem o i v) Φ := by
  refine ⟨fun A own s y o iv Q E ar ow rx ro ri kt => ?_⟩
  subst hk
  obtain ⟨b, es, m, e0, e1, e2, e3, e4⟩ := (IsD.at_ j hc).inv ow ro
  obtain ⟨kvs, hd, kv⟩ := dict_of (w := c.w) e1 e2 e3
  (first | obtain rfl := ro.inv | obtain ⟨_, rfl⟩ := ro.inv | cases ro)
  cases e0
  refine wpAny_setItem_pairs (hsz := by rw [kv.length, sizeLine_eq]; omega) (V.key_is ri) hd fun h' hd' sb => ?_
  obtain ⟨es', m', g1, g2, g3⟩ := dict_to (w := c.w) hd' (kv.put rx (kv.keys ▸ e3))
  obtain ⟨o1, o2⟩ := ow.set (m' := .dict k (dput ds x dv)) hc sb g1 (.dict g2 g3)
  exact kt _ own _ _ p o1 o2
end
end Mine
end

section
open PySem PySem.W PyProof.Rows PySem.Calls PySem.Spec
set_option maxRecDepth 100000
namespace Mine

section
variable {c : Cx} {env : Env} {n : Nat} {Γ : Gm} {σ : St} {Φ : V → St → Prop} {Ψ : Fl → Gm → St → Prop}

/-- a place that is hidden, of which nothing is told -/
theorem Ow.hid {own : List Addr} {h h' : Heap} (o : Ow c own σ h) (k : Kp [] h h') {a : Addr} (hn : h.get? a = none) (hl : ∃ x, h'.get? a = some x) : Ow c (a :: own) σ h' ∧ Stp (adr σ) own h (adr σ) (a :: own) h' := by
  have new : ∀ z ∈ a :: own, z ∈ own ∨ h.get? z = none := fun z q => by
    cases q with
    | head => exact .inr hn
    | tail _ q => exact .inl q
  have st : (hideAll h own).StaysIn (hideAll h' (a :: own)) := hide_stays k (fun _ q => nomatch q) new
  refine ⟨⟨fun b x e => st b x (o.top b x e), fun z q => .tail _ (o.sub z q), o.nd, fun z q => ?_, fun p hp => ?_, o.sys⟩, k.more (fun _ q => (nomatch q)), fun z q => .inl (.tail _ q), fun z q => (new z q).imp id .inr, fun z q => .inl q⟩
  · cases q with
    | head => exact hl
    | tail _ q => exact k.live (o.old z q)
  · obtain ⟨ob, h1, h2⟩ := o.cells p hp
    exact ⟨ob, k.keep _ _ h1 (fun q => nomatch q), h2.mono st⟩
/-- a hidden place changes -/
theorem Ow.hidSame {own : List Addr} {h h' : Heap} (o : Ow c own σ h) {a : Addr} (ha : a ∈ own) (hn : a ∉ adr σ) (k : Kp [a] h h') (hl : ∃ x, h'.get? a = some x) : Ow c own σ h' ∧ (hideAll h own).StaysIn (hideAll h' own) := by
  have st : (hideAll h own).StaysIn (hideAll h' own) := hide_stays k (fun z q => by simp at q; subst q; exact ha) fun _ q => .inl q
  refine ⟨⟨fun b x e => st b x (o.top b x e), o.sub, o.nd, fun z q => ?_, fun p hp => ?_, o.sys⟩, st⟩
  · by_cases e : z = a
    · exact e ▸ hl
    · obtain ⟨x, hx⟩ := o.old z q
      exact ⟨x, k.keep _ _ hx (by simpa using e)⟩
  · obtain ⟨ob, h1, h2⟩ := o.cells p hp
    refine ⟨ob, k.keep _ _ h1 (fun q => ?_), h2.mono st⟩
    simp at q
    exact hn (q ▸ List.mem_map_of_mem hp)
/-- a hidden place becomes a cell -/
theorem Ow.addCell {own : List Addr} {h : Heap} (o : Ow c own σ h) {a : Addr} {ob : Obj} {m : MO} (ha : a ∈ own) (hn : a ∉ adr σ) (hs : (a == sysModules) = false) (e : h.get? a = some ob) (hm : MoIs c.w (hideAll h own) ob m) : Ow c own (σ ++ [(a, m)]) h := by
  have had : adr (σ ++ [(a, m)]) = adr σ ++ [a] := by rw [adr, List.map_append]; rfl
  refine ⟨o.top, fun z q => ?_, ?_, o.old, fun p hp => ?_, fun q => ?_⟩
  · rw [had] at q
    rcases List.mem_append.mp q with q | q
    · exact o.sub z q
    · simp at q; exact q ▸ ha
  · rw [had]
    refine List.nodup_append.mpr ⟨o.nd, by simp, fun x h1 b h2 => ?_⟩
    simp at h2; subst h2
    exact fun e => hn (e ▸ h1)
  · rcases List.mem_append.mp hp with q | q
    · exact o.cells p q
    · simp at q; subst q; exact ⟨ob, e, hm⟩
  · rw [had] at q
    rcases List.mem_append.mp q with q | q
    · exact o.sys q
    · simp at q; exact beq_eq_false_iff_ne.mp hs q.symm
theorem Stp.addCell {own own' : List Addr} {h h' : Heap} {σ' : St} (s : Stp (adr σ) own h (adr σ') own' h') {a : Addr} {m : MO} (hn : h.get? a = none) : Stp (adr σ) own h (adr (σ' ++ [(a, m)])) own' h' := by
  refine ⟨s.kp, s.sub, s.new, fun z q => ?_⟩
  rw [adr, List.map_append] at q
  rcases List.mem_append.mp q with q | q
  · exact s.xnew z q
  · simp at q; subst q; exact .inr hn
/-- a hidden place is shown: frozen -/
theorem Stp.dropNew {own own' : List Addr} {h h' : Heap} {σ' : St} (s : Stp (adr σ) own h (adr σ') own' h') (old : ∀ z ∈ own, ∃ o, h.get? z = some o) {a : Addr} (hn : h.get? a = none) : Stp (adr σ) own h (adr σ') (own'.filter (· != a)) h' := by
  refine ⟨s.kp, fun z q => ?_, fun z q => s.new z (List.mem_filter.mp q).1, s.xnew⟩
  rcases s.sub z q with w | w
  · refine .inl (List.mem_filter.mpr ⟨w, ?_⟩)
    simp only [bne_iff_ne, ne_eq]
    exact fun e => not_new (old z q) (e ▸ hn)
  · exact .inr w

/-! displays of dicts -/
structure PV (c : Cx) (env : Env) (n : Nat) (Γ : Gm) (σ : St) (k : Kd) (t : Sem (List (Value × Value))) (Φ : List (k.T × V) → St → Prop) : Prop where
  run : ∀ (A : Around) (own : List Addr) (s : Shared) (Q : List (Value × Value) → Shared → Prop) (E : Value → Shared → Prop), Ar n A → Bd c env own Γ σ s.heap →
    (∀ vs kvs ds (σ' : St) own' h' tk', Φ ds σ' → Ow c own' σ' h' → Stp (adr σ) own s.heap (adr σ') own' h' → Carries (k.knd c.w) vs kvs → KV c.w (hideAll h' own') kvs ds → Q vs { s with heap := h', toks := tk' }) → wpAny c.M A t Q E s
theorem pv_nil {k : Kd} {pos : Pos} {Φ : List (k.T × V) → St → Prop} (p : Φ [] σ) : PV c env n Γ σ k (evalPairs (pairTrees [] [] env pos)) Φ := by
  refine ⟨fun A own s Q E ar bd kt => ?_⟩
  exact pairTrees_nil_walk (kt [] [] [] σ own s.heap s.toks p bd.ow (.refl _ _ _) trivial .nil)
theorem pv_cons {k : Kd} {ke ve : Expr} {ks : List (Option Expr)} {vs : List Expr} {pos : Pos} {Φ : List (k.T × V) → St → Prop}
    (h : EV c env n Γ σ (eval ke env) fun d σ₁ => ∃ x, d = .key k x ∧ EV c env n Γ σ₁ (eval ve env) fun e σ₂ => PV c env n Γ σ₂ k (evalPairs (pairTrees ks vs env pos)) fun ds σ₃ => Φ ((x, e) :: ds) σ₃) : PV c env n Γ σ k (evalPairs (pairTrees (some ke :: ks) (ve :: vs) env pos)) Φ := by
  refine ⟨fun A own s Q E ar bd kt => ?_⟩
  refine pairTrees_cons_walk (h.run A own s _ E ar bd fun v d σ₁ own₁ h₁ tk₁ p₁ ow₁ st₁ r₁ => ?_)
  obtain ⟨x, rfl, p₁⟩ := p₁
  have bd₁ := bd.step st₁ ow₁
  refine p₁.run A own₁ _ _ E ar bd₁ fun u e σ₂ own₂ h₂ tk₂ p₂ ow₂ st₂ r₂ => ?_
  refine p₂.run A own₂ _ _ E ar (bd₁.step st₂ ow₂) fun vs kvs ds σ₃ own₃ h₃ tk₃ p₃ ow₃ st₃ hc kv => ?_
  exact kt ((v, u) :: vs) ((x, u) :: kvs) ((x, e) :: ds) σ₃ own₃ h₃ tk₃ p₃ ow₃ ((st₁.trans st₂ bd.ow.old).trans st₃ bd.ow.old) ⟨V.key_is r₁, rfl, hc⟩ (.cons (r₂.mono (ow₂.stp st₃)) kv)

noncomputable def dmerge {K α : Type} [DecidableEq K] (a b : List (K × α)) : List (K × α) := b.foldl (fun a p => dput a p.1 p.2) a
theorem KV.merge {w : World} {h : Heap} {K : Type} [DecidableEq K] : ∀ {more : List (K × Value)} {mo : List (K × V)} {kvs : List (K × Value)} {ds : List (K × V)}, KV w h more mo → KV w h kvs ds → (kvs.map (·.1)).Nodup → KV w h (merged kvs more) (dmerge ds mo) ∧ ((dmerge ds mo).map (·.1)).Nodup
  | [], mo, kvs, ds, q, q', nd => by
    cases mo with
    | nil => exact ⟨q', q'.keys ▸ nd⟩
    | cons p r => cases q.keys
  | (x, v) :: more, mo, kvs, ds, q, q', nd => by
    obtain ⟨d, r, rfl, r1, r2⟩ := q.inv
    have h1 := q'.put (x := x) r1 nd
    exact KV.merge (kvs := stored kvs x v) (ds := dput ds x d) r2 h1 (h1.keys ▸ dput_nodup (q'.keys ▸ nd))

theorem dict_core {k : Kd} {keys : List (Option Expr)} {values : List Expr} {pos : Pos} {Φ : List (k.T × V) → St → Prop} (hall : keys.all (·.isSome) = true) (hl : keys.length = values.length) (h0 : keys ≠ []) (hlen : keys.length ≤ 15)
    (h : PV c env n Γ σ k (evalPairs (pairTrees keys values env pos)) Φ) {A : Around} {own : List Addr} {s : Shared} {Q E : Value → Shared → Prop} (ar : Ar n A) (bd : Bd c env own Γ σ s.heap)
    (kt : ∀ a ds (σ' : St) own' h' tk' es m, Φ ds σ' → Ow c own' σ' h' → Stp (adr σ) own s.heap (adr σ') own' h' → a ∈ own' → a ∉ adr σ' → s.heap.get? a = none → h'.get? a = some (dictOf es m) → RpE c.w (hideAll h' own') k es (dmerge [] ds) →
      ((dmerge [] ds).map (·.1)).Nodup → (a == sysModules) = false → Q (.ref a) { s with heap := h', toks := tk' }) : wpAny c.M A (eval (.Dict keys values pos) env) Q E s := by
  refine wpAny_Dict_any hall hl h0 hlen ?_
  have hn : s.heap.get? s.heap.objs.size = none := new_ge (Nat.le_refl _)
  obtain ⟨ow1, st1⟩ := bd.ow.hid (Kp.push [] s.heap emptyDict) hn ⟨_, Heap.get?_push_size _ rfl⟩
  have hna : s.heap.objs.size ∉ adr σ := fun q => not_new (bd.ow.old _ (bd.ow.sub _ q)) hn
  refine wpAny_mono (wpAny_evalPairs_len (h.run A _ _ (fun vs s₁ => vs.length = (pairTrees keys values env pos).length → wpAny c.M A (storeAll s.heap.objs.size vs) (fun _ s₂ => Q (.ref s.heap.objs.size) s₂) E s₁) E ar (bd.step st1 ow1) fun vs kvs ds σ₁ own₁ h₁ tk₁ p ow₁ st₁ hc kv => ?_)) (fun vs s' hz => hz.2 hz.1) fun _ _ e => e
  intro hvl
  have hka : s.heap.objs.size ∉ adr σ₁ := fun q => (st₁.xnew _ q).elim hna fun q => not_new ⟨_, Heap.get?_push_size _ rfl⟩ q
  have hko : s.heap.objs.size ∈ own₁ := (st₁.sub _ (.head _)).elim id fun q => absurd q hna
  have hemp : h₁.get? s.heap.objs.size = some emptyDict := st₁.kp.keep _ _ (Heap.get?_push_size _ rfl) hna
  have hD : h₁.DictOf (k.knd c.w) s.heap.objs.size [] := ⟨_, #[], 0, hemp, ⟨rfl, rfl, rfl⟩, rfl, fun e he => by simp at he, .nil, by simp⟩
  refine wpAny_storeAll vs kvs [] _ _ hc hD ?_ fun h' hD' sb => ?_
  · rw [hc.length, hvl, pairTrees_length keys values env pos hall hl, sizeLine_eq, List.length_nil]; omega
  · obtain ⟨kv', nd'⟩ := KV.merge kv .nil (ds := []) (by simp)
    have hlive : ∃ x, h'.get? s.heap.objs.size = some x := let ⟨o, _, _, e, _⟩ := hD'; ⟨o, e⟩
    obtain ⟨ow2, st2⟩ := ow₁.hidSame hko hka (Kp.same sb (.head _)) hlive
    obtain ⟨es, m, g1, g2, g3⟩ := dict_to (w := c.w) hD' (kv'.mono st2)
    refine kt _ ds σ₁ own₁ h' _ es m p ow2 ?_ hko hka hn g1 g2 g3 bd.ow.newSys
    have hs := st1.trans st₁ bd.ow.old
    exact ⟨⟨fun b o e nb => (sb.2 b fun q => not_new ⟨o, e⟩ (q ▸ hn)).trans (hs.kp.keep b o e nb)⟩, hs.sub, hs.new, hs.xnew⟩
theorem ev_dict (k : Kd) {keys : List (Option Expr)} {values : List Expr} {pos : Pos} (h : PV c env n Γ σ k (evalPairs (pairTrees keys values env pos)) fun ds σ₁ => Φ (.dict k (dmerge [] ds)) σ₁)
    (hall : keys.all (·.isSome) = true := by rfl) (hl : keys.length = values.length := by rfl) (h0 : keys ≠ [] := by nofun) (hlen : keys.length ≤ 15 := by decide) : EV c env n Γ σ (eval (.Dict keys values pos) env) Φ := by
  refine ⟨fun A own s Q E ar bd kt => ?_⟩
  refine dict_core hall hl h0 hlen h ar bd fun a ds σ' own' h' tk' es m p ow st ha hna hn g1 g2 g3 hs => ?_
  exact kt _ _ σ' _ h' tk' p (ow.drop (List.Sublist.refl _) a hna) (st.dropNew bd.ow.old hn) (V.dict_mk (drop_get g1) (RpE.mono (drop_stays a) g2) g3 hs)
theorem ev_dictC (k : Kd) {keys : List (Option Expr)} {values : List Expr} {pos : Pos} (h : PV c env n Γ σ k (evalPairs (pairTrees keys values env pos)) fun ds σ₁ => ∀ a, Φ (.cell a) (σ₁ ++ [(a, .dict k (dmerge [] ds))]))
    (hall : keys.all (·.isSome) = true := by rfl) (hl : keys.length = values.length := by rfl) (h0 : keys ≠ [] := by nofun) (hlen : keys.length ≤ 15 := by decide) : EV c env n Γ σ (eval (.Dict keys values pos) env) Φ := by
  refine ⟨fun A own s Q E ar bd kt => ?_⟩
  refine dict_core hall hl h0 hlen h ar bd fun a ds σ' own' h' tk' es m p ow st ha hna hn g1 g2 g3 hs => ?_
  exact kt _ _ _ _ h' tk' (p a) (ow.addCell ha hna hs g1 (.dict g2 g3)) (st.addCell hn) (.cell a)
theorem ev_dict0 (k : Kd) {pos : Pos} (p : Φ (.dict k []) σ) : EV c env n Γ σ (eval (.Dict [] [] pos) env) Φ := by
  refine ⟨fun A own s Q E ar bd kt => ?_⟩
  refine wpAny_Dict_empty (kt _ _ σ own _ _ p (bd.ow.push _) (.quiet (Kp.push [] _ _)) (V.dict_mk (hide_new bd.ow rfl) .nil (by simp) bd.ow.newSys))
theorem ev_dict0C (k : Kd) {pos : Pos} (p : ∀ a, Φ (.cell a) (σ ++ [(a, .dict k [])])) : EV c env n Γ σ (eval (.Dict [] [] pos) env) Φ := by
  refine ⟨fun A own s Q E ar bd kt => ?_⟩
  refine wpAny_Dict_empty (kt _ _ _ _ _ _ (p _) (bd.ow.newCell (m := .dict k []) (MoIs.dict (n := 0) .nil (by simp)) rfl) .newCell (.cell _))

/-! freezing a cell -/
noncomputable def frozen : MO → Option V
  | .list ds => some (.list ds)
  | .dict k es => some (.dict k es)
  | .attrs _ => none
theorem cell_froz {own : List Addr} {h : Heap} (o : Ow c own σ h) {k : Nat} {a : Addr} {m : MO} {d : V} (e : σ[k]? = some (a, m)) (hf : frozen m = some d) : Rp c.w (hideAll h (own.filter (· != a))) (.ref a) d := by
  obtain ⟨ob, h1, h2⟩ := o.at_ e
  have hs := o.notSys e
  cases h2 with
  | list r => cases hf; exact .list (drop_get h1) (r.mono (drop_stays a))
  | dict r nd => cases hf; exact V.dict_mk (drop_get h1) (RpE.mono (drop_stays a) r) nd hs
  | attrs => cases hf
/-- d' is d with the frozen object in the place of the cell -/
noncomputable def Imp (w : World) (a : Addr) (D d d' : V) : Prop := ∀ h v, Rp w h (.ref a) D → Rp w h v d → Rp w h v d'
theorem Imp.rfl {w : World} {a : Addr} {D d : V} : Imp w a D d d := fun _ _ _ r => r
theorem Imp.cell {w : World} {a : Addr} {D : V} : Imp w a D (.cell a) D := fun _ _ f r => by (first | obtain rfl := r.inv | obtain ⟨_, rfl⟩ := r.inv | cases r); exact f
theorem Imp.tup2 {w : World} {a : Addr} {D x y y' : V} (i : Imp w a D y y') : Imp w a D (.tup [x, y]) (.tup [x, y']) := fun h v f r => by
  replace r := r.inv; obtain ⟨_, _, _, rfl, e, r⟩ := r
  replace r := r.inv; obtain ⟨_, _, rfl, r1, r⟩ := r
  replace r := r.inv; obtain ⟨_, _, rfl, r2, r⟩ := r
  (first | obtain rfl := r.inv | obtain ⟨_, rfl⟩ := r.inv | cases r); exact .tup e (.cons r1 (.cons (i _ _ f r2) .nil))
theorem ImpE {w : World} {h : Heap} {k : Kd} {a : Addr} {D x x' : V} {y : k.T} {es : List DictEntry} {r : List (k.T × V)} (i : Imp w a D x x') (f : Rp w h (.ref a) D) (q : RpE w h k es ((y, x) :: r)) : RpE w h k es ((y, x') :: r) := by
  cases q with
  | cons q1 q2 q3 => exact .cons q1 (i _ _ f q2) q3
theorem Imp.inst {w : World} {a C : Addr} {D x x' : V} {y : Str} {r : List (Str × V)} (i : Imp w a D x x') : Imp w a D (.inst C ((y, x) :: r)) (.inst C ((y, x') :: r)) := fun h v f q => by
  cases q with
  | inst e1 e2 e3 e4 =>
    cases e4 with
    | cons q1 q2 q3 =>
      refine .inst e1 e2 (fun z hz => e3 z ?_) (.cons q1 (i _ _ f q2) q3)
      rw [List.lookup_cons] at hz ⊢
      split at hz
      · cases hz
      · exact hz

/-- the frame forgets: what is told of it may be less -/
noncomputable def Has (Γ : Gm) : Gm → Prop
  | [] => True
  | (x, d) :: r => Γ.lookup x = some d ∧ Has Γ r
theorem Has.get {Γ : Gm} {x : Str} {d : V} : ∀ {Γ' : Gm}, Has Γ Γ' → Γ'.lookup x = some d → Γ.lookup x = some d
  | [], _, e => by cases e
  | (y, e) :: r, h, q => by
    rw [List.lookup_cons] at q
    split at q
    · rename_i z; cases q; rw [beq_iff_eq.mp z]; exact h.1
    · exact Has.get h.2 q
theorem Bd.weak {own : List Addr} {h : Heap} (bd : Bd c env own Γ σ h) {Γ' : Gm} (hs : Has Γ Γ') : Bd c env own Γ' σ h :=
  ⟨bd.ow, bd.ok, bd.loc, bd.cel, bd.nd, let ⟨m, h1, h2⟩ := bd.ns; ⟨m, h1, fun x d e => h2 x d (hs.get e)⟩⟩
theorem xs_nilW {Γ' : Gm} (hs : Has Γ Γ') (p : Ψ .next Γ' σ) : XV c env n Γ σ (execs [] env) Ψ := by
  refine ⟨fun A own s Q E ar bd k => ?_⟩
  exact wpAny_execs_nil (k .next .next Γ' σ own s.heap s.toks p (bd.weak hs) (.refl _ _ _) .next)
theorem xs_weak {Γ' : Gm} (hs : Has Γ Γ') {t : Sem Flow} (h : XV c env n Γ' σ t Ψ) : XV c env n Γ σ t Ψ :=
  ⟨fun A own s Q E ar bd k => h.run A own s Q E ar (bd.weak hs) k⟩

/-- what becomes of the names when a is frozen -/
noncomputable def ImpG (w : World) (a : Addr) (D : V) : Gm → Gm → Prop
  | Γ, [] => True
  | Γ, (x, d') :: r => (∃ d, Γ.lookup x = some d ∧ Imp w a D d d') ∧ ImpG w a D Γ r
theorem ImpG.get {w : World} {a : Addr} {D : V} {Γ : Gm} {x : Str} {d' : V} : ∀ {Γ' : Gm}, ImpG w a D Γ Γ' → Γ'.lookup x = some d' → ∃ d, Γ.lookup x = some d ∧ Imp w a D d d'
  | [], _, e => by cases e
  | (y, e) :: r, h, q => by
    rw [List.lookup_cons] at q
    split at q
    · rename_i z; cases q; rw [beq_iff_eq.mp z]; exact h.1
    · exact ImpG.get h.2 q
/-- the same of the cells -/
inductive ImpM (w : World) (a : Addr) (D : V) : MO → MO → Prop
  | same (m : MO) : ImpM w a D m m
  | head {k : Kd} {y : k.T} {x x' : V} {r : List (k.T × V)} : Imp w a D x x' → ImpM w a D (.dict k ((y, x) :: r)) (.dict k ((y, x') :: r))
noncomputable def ImpS (w : World) (a : Addr) (D : V) (σ : St) (σ' : St) : Prop := ∀ p ∈ σ', ∃ m, (p.1, m) ∈ σ ∧ ImpM w a D m p.2

theorem Bd.freeze {own : List Addr} {h : Heap} (bd : Bd c env own Γ σ h) {j : Nat} {a : Addr} {m : MO} {D : V} (e : σ[j]? = some (a, m)) (hf : frozen m = some D) {Γ' : Gm} {σ' : St} (hg : ImpG c.w a D Γ Γ') (hs : ImpS c.w a D σ σ') (hsub : (adr σ').Sublist (adr σ)) (hna : a ∉ adr σ') :
    Bd c env (own.filter (· != a)) Γ' σ' h ∧ Stp (frA env ++ adr σ) own h (frA env ++ adr σ') (own.filter (· != a)) h := by
  have fz := cell_froz bd.ow e hf
  have ds := drop_stays (own := own) (h := h) a
  have ha : a ∈ adr σ := List.mem_map_of_mem (List.mem_of_getElem? e)
  refine ⟨⟨⟨fun b x e => ds b x (bd.ow.top b x e), fun z q => List.mem_filter.mpr ⟨bd.ow.sub z (hsub.subset q), ?_⟩, bd.ow.nd.sublist hsub, fun z q => bd.ow.old z (List.mem_filter.mp q).1, fun p hp => ?_, fun q => bd.ow.sys (hsub.subset q)⟩, bd.ok, ?_, fun p hp => ?_, bd.nd, ?_⟩, ?_⟩
  · simp only [bne_iff_ne, ne_eq]; exact fun e => hna (e ▸ q)
  · obtain ⟨m', h1, h2⟩ := hs p hp
    obtain ⟨ob, g1, g2⟩ := bd.ow.cells _ h1
    refine ⟨ob, g1, ?_⟩
    have g2 := g2.mono ds
    obtain ⟨p1, p2⟩ := p
    cases h2 with
    | same => exact g2
    | head i =>
      cases g2 with
      | dict r nd => exact .dict (ImpE i fz r) nd
  · refine ⟨List.mem_filter.mpr ⟨bd.loc.1, ?_⟩, fun q => bd.loc.2 (hsub.subset q)⟩
    simp only [bne_iff_ne, ne_eq]; exact fun e => bd.loc.2 (e ▸ ha)
  · obtain ⟨c1, c2, c3, c4⟩ := bd.cel p hp
    refine ⟨List.mem_filter.mpr ⟨c1, ?_⟩, fun q => c2 (hsub.subset q), c3, c4⟩
    simp only [bne_iff_ne, ne_eq]; exact fun e => c2 (e ▸ ha)
  · obtain ⟨mm, h1, h2⟩ := bd.ns
    refine ⟨mm, h1, fun x d' q => ?_⟩
    obtain ⟨d, q1, q2⟩ := hg.get q
    rcases h2 x d q1 with ⟨w, v, w1, w2⟩ | ⟨w, ad, v, w1, w2, w3⟩
    · exact .inl ⟨w, v, w1, q2 _ _ fz (w2.mono ds)⟩
    · exact .inr ⟨w, ad, v, w1, w2, q2 _ _ fz (w3.mono ds)⟩
  · refine ⟨.refl _ _, fun z q => ?_, fun z q => .inl (List.mem_filter.mp q).1, fun z q => .inl ?_⟩
    · by_cases q' : z = a
      · exact .inr (List.mem_append_right _ (q' ▸ ha))
      · exact .inl (List.mem_filter.mpr ⟨q, by simpa using q'⟩)
    · rcases List.mem_append.mp q with q | q
      · exact List.mem_append_left _ q
      · exact List.mem_append_right _ (hsub.subset q)
/-- a cell is frozen, at a place of our choice -/
theorem xs_freeze (j : Nat) {a : Addr} {m : MO} {D : V} (e : σ[j]? = some (a, m)) (hf : frozen m = some D) {Γ' : Gm} {σ' : St} (hg : ImpG c.w a D Γ Γ') (hs : ImpS c.w a D σ σ') (hsub : (adr σ').Sublist (adr σ)) (hna : a ∉ adr σ') {t : Sem Flow} (h : XV c env n Γ' σ' t Ψ) : XV c env n Γ σ t Ψ := by
  refine ⟨fun A own s Q E ar bd k => ?_⟩
  obtain ⟨bd', st'⟩ := bd.freeze e hf hg hs hsub hna
  exact h.run A _ s Q E ar bd' fun f fl Γ₂ σ₂ own₂ h₂ tk₂ p₂ bd₂ st₂ r₂ => k f fl Γ₂ σ₂ own₂ h₂ tk₂ p₂ bd₂ (st'.trans st₂ bd.ow.old) r₂
end
end Mine
end

section
open PySem PySem.W PyProof.Rows PySem.Calls PySem.Spec
set_option maxRecDepth 100000
namespace Mine

section
variable {c : Cx} {env : Env} {n : Nat} {Γ : Gm} {σ : St} {Φ : V → St → Prop} {Ψ : Fl → Gm → St → Prop}

/-- a list: frozen, or a cell -/
noncomputable def IsLs (σ : St) (d : V) (ds : List V) : Prop := d = V.list ds ∨ ∃ (a : Addr) (j : Nat), d = V.cell a ∧ σ[j]? = some (a, MO.list ds)
theorem IsLs.fr {ds : List V} : IsLs σ (.list ds) ds := .inl rfl
theorem IsLs.at_ {a : Addr} {ds : List V} (j : Nat) (h : σ[j]? = some (a, .list ds)) : IsLs σ (.cell a) ds := .inr ⟨a, j, rfl, h⟩
theorem IsLs.inv {d : V} {ds : List V} (i : IsLs σ d ds) {own : List Addr} {h : Heap} (ow : Ow c own σ h) {v : Value} (r : Rp c.w (hideAll h own) v d) : ∃ a vs m, v = .ref a ∧ h.get? a = some (listO vs m) ∧ Rps c.w (hideAll h own) vs ds := by
  rcases i with rfl | ⟨a, j, rfl, hj⟩
  · replace r := r.inv; obtain ⟨_, _, _, rfl, e, r⟩ := r
    exact ⟨_, _, _, rfl, of_hideAll _ e, r⟩
  · (first | obtain rfl := r.inv | obtain ⟨_, rfl⟩ := r.inv | cases r)
    obtain ⟨vs, m, h1, h2⟩ := ow.list hj
    exact ⟨a, vs, m, rfl, h1, h2⟩
theorem tup_inv {ds : List V} {own : List Addr} {h : Heap} {v : Value} (r : Rp c.w (hideAll h own) v (.tup ds)) : ∃ a vs m, v = .ref a ∧ h.get? a = some (tupO vs m) ∧ Rps c.w (hideAll h own) vs ds := by
  replace r := r.inv; obtain ⟨_, _, _, rfl, e, r⟩ := r
  exact ⟨_, _, _, rfl, of_hideAll _ e, r⟩

theorem p2_litem {value slice : Expr} {d e : V} {ds : List V} {i : Int} (q : IsLs σ d ds) (h0 : 0 ≤ i) (hi : i < 2 ^ 63) (he : ds[i.toNat]? = some e) (p : Φ e σ)
    (hs : ∀ l u, subscripted slice false (.ref l) (.int i u) = operate [.ref l, .int i u] (getItem (.ref l) (.int i u)) := by intro _ _; with_unfolding_all rfl) : P2 c n d (.int i) σ (subscriptTail value slice) Φ := by
  refine ⟨fun A own s u v Q E ar ow ra rb k => ?_⟩
  (first | obtain rfl := rb.inv | obtain ⟨_, rfl⟩ := rb.inv | cases rb)
  obtain ⟨a, vs, m, rfl, hl, r⟩ := q.inv ow ra
  obtain ⟨x, h1, h2⟩ := r.get he
  have hL := isList_of hl
  exact tail_any hL.typeIs slot_list_getitem.lookup (wpAny_getItem_list hL h0 hi (by simpa using h1) (k x e σ own s.heap s.toks p ow (.refl _ _ _) h2)) (hs _ _)
theorem p2_lneg {value slice : Expr} {d e : V} {ds : List V} {i : Int} (q : IsLs σ d ds) (h0 : i < 0) (h1 : -(ds.length : Int) ≤ i) (hi : -(2 ^ 63) ≤ i) (he : ds[(i + ds.length).toNat]? = some e) (p : Φ e σ)
    (hs : ∀ l u, subscripted slice false (.ref l) (.int i u) = operate [.ref l, .int i u] (getItem (.ref l) (.int i u)) := by intro _ _; with_unfolding_all rfl) : P2 c n d (.int i) σ (subscriptTail value slice) Φ := by
  refine ⟨fun A own s u v Q E ar ow ra rb k => ?_⟩
  (first | obtain rfl := rb.inv | obtain ⟨_, rfl⟩ := rb.inv | cases rb)
  obtain ⟨a, vs, m, rfl, hl, r⟩ := q.inv ow ra
  have hlen := r.length
  obtain ⟨x, g1, g2⟩ := r.get he
  have hL := isList_of hl
  exact tail_any hL.typeIs slot_list_getitem.lookup (wpAny_getItem_list_neg hL h0 (by simpa [hlen] using h1) hi (by simpa [hlen] using g1) (k x e σ own s.heap s.toks p ow (.refl _ _ _) g2)) (hs _ _)
theorem p2_titem {value slice : Expr} {e : V} {ds : List V} {i : Int} (h0 : 0 ≤ i) (hi : i < 2 ^ 63) (he : ds[i.toNat]? = some e) (p : Φ e σ)
    (hs : ∀ l u, subscripted slice false (.ref l) (.int i u) = operate [.ref l, .int i u] (getItem (.ref l) (.int i u)) := by intro _ _; with_unfolding_all rfl) : P2 c n (.tup ds) (.int i) σ (subscriptTail value slice) Φ := by
  refine ⟨fun A own s u v Q E ar ow ra rb k => ?_⟩
  (first | obtain rfl := rb.inv | obtain ⟨_, rfl⟩ := rb.inv | cases rb)
  obtain ⟨a, vs, m, rfl, hl, r⟩ := tup_inv ra
  have hlen := r.length
  obtain ⟨x, h1, h2⟩ := r.get he
  have hlt : i.toNat < vs.length := (List.getElem?_eq_some_iff.mp h1).1
  exact item_tupleT ⟨_, hl, rfl, _, rfl⟩ (by omega) hi (seqIndex_of h0 (by omega)) h1 (k x e σ own s.heap s.toks p ow (.refl _ _ _) h2) (hs _ _)

/-- l[k:], l[:k] -/
theorem Rps.drop {w : World} {h : Heap} (j : Nat) {vs : List Value} {ds : List V} (r : Rps w h vs ds) : Rps w h (vs.drop j) (ds.drop j) := by
  induction ds generalizing vs j with
  | nil => obtain rfl := r.inv; cases j <;> exact .nil
  | cons d ds ih =>
    replace r := r.inv; obtain ⟨_, _, rfl, r1, r2⟩ := r
    cases j with
    | zero => exact .cons r1 r2
    | succ j => exact ih j r2
theorem Rps.take {w : World} {h : Heap} : ∀ (j : Nat) {vs : List Value} {ds : List V}, Rps w h vs ds → Rps w h (vs.take j) (ds.take j)
  | 0, _, _, r => .nil
  | j + 1, _, _, .nil => .nil
  | j + 1, _, _, .cons a r => .cons a (Rps.take j r)
theorem push2 {own : List Addr} {h : Heap} {vs : List Value} {ds : List V} (ow : Ow c own σ h) (r : Rps c.w (hideAll h own) vs ds) (o : Obj) :
    Ow c own σ ((h.push o).push { cls := .type "list", data := .seq vs.toArray }) ∧ Stp (adr σ) own h (adr σ) own ((h.push o).push { cls := .type "list", data := .seq vs.toArray }) ∧ Rp c.w (hideAll ((h.push o).push { cls := .type "list", data := .seq vs.toArray }) own) (.ref (h.objs.size + 1)) (.list ds) := by
  have ow1 := ow.push o
  have ow2 := ow1.push { cls := .type "list", data := .seq vs.toArray }
  have st : Stp (adr σ) own h (adr σ) own ((h.push o).push { cls := .type "list", data := .seq vs.toArray }) := (Stp.quiet (Kp.push [] h o)).trans (.quiet (Kp.push [] _ _)) ow.old
  refine ⟨ow2, st, ?_⟩
  have g := hide_new (c := c) (σ := σ) ow1 (ob := { cls := .type "list", data := .seq vs.toArray }) rfl
  rw [Heap.size_push] at g
  exact .list (n := 0) g (r.mono (ow.stp st))
theorem ev_from {value : Expr} {k j : Nat} {p1 p2 pos : Pos} (h : EV c env n Γ σ (eval value env) fun d σ₁ => ∃ ds, IsLs σ₁ d ds ∧ ds.length ≤ sizeLine ∧ Φ (.list (ds.drop k)) σ₁)
    (hs : ∀ l u, subscripted (.Slice (some (.Constant (.int k) j p1)) none none p2) false (.ref l) (.ref u) = operate [.ref u, .ref l] (getItem (.ref l) (.ref u)) := by intro _ _; with_unfolding_all rfl)
    (ht : ∀ l r, letTemporaryGo value (.ref l) r = pure () := by intro _ _; with_unfolding_all rfl) :
    EV c env n Γ σ (eval (.Subscript value (.Slice (some (.Constant (.int k) j p1)) none none p2) pos) env) Φ := by
  refine ⟨fun A own s Q E ar bd kt => ?_⟩
  refine Subscript_ (h.run A own s _ E ar bd fun v d σ₁ own₁ h₁ tk₁ p ow₁ st₁ r₁ => ?_)
  obtain ⟨ds, q, hsz, p⟩ := p
  refine wpAny_Slice (evalPart_some_step (wpAny_mkInt (evalPart_none_step (evalPart_none_step ?_))))
  obtain ⟨a, vs, m, rfl, hl, r⟩ := q.inv ow₁ r₁
  have hlen := r.length
  refine slice_listK (s := { s with heap := h₁, toks := tk₁ + 1 }) (isList_of hl) (.int k tk₁) .none ?_ (hs _ _) (ht _) (by simpa [hlen] using hsz)
  rw [slicePick_from']
  obtain ⟨o1, o2, o3⟩ := push2 ow₁ (r.drop k) { cls := .type "slice", data := .fields #[.int k tk₁, .none, .none] }
  exact kt _ _ σ₁ own₁ _ _ p o1 (st₁.trans o2 bd.ow.old) o3
theorem ev_upto {value : Expr} {k j : Nat} {p1 p2 pos : Pos} (h : EV c env n Γ σ (eval value env) fun d σ₁ => ∃ ds, IsLs σ₁ d ds ∧ ds.length ≤ sizeLine ∧ Φ (.list (ds.take k)) σ₁)
    (hs : ∀ l u, subscripted (.Slice none (some (.Constant (.int k) j p1)) none p2) false (.ref l) (.ref u) = operate [.ref u, .ref l] (getItem (.ref l) (.ref u)) := by intro _ _; with_unfolding_all rfl)
    (ht : ∀ l r, letTemporaryGo value (.ref l) r = pure () := by intro _ _; with_unfolding_all rfl) :
    EV c env n Γ σ (eval (.Subscript value (.Slice none (some (.Constant (.int k) j p1)) none p2) pos) env) Φ := by
  refine ⟨fun A own s Q E ar bd kt => ?_⟩
  refine Subscript_ (h.run A own s _ E ar bd fun v d σ₁ own₁ h₁ tk₁ p ow₁ st₁ r₁ => ?_)
  obtain ⟨ds, q, hsz, p⟩ := p
  refine wpAny_Slice (evalPart_none_step (evalPart_some_step (wpAny_mkInt (evalPart_none_step ?_))))
  obtain ⟨a, vs, m, rfl, hl, r⟩ := q.inv ow₁ r₁
  have hlen := r.length
  refine slice_listK (s := { s with heap := h₁, toks := tk₁ + 1 }) (isList_of hl) .none (.int k tk₁) ?_ (hs _ _) (ht _) (by simpa [hlen] using hsz)
  rw [slicePick_upto']
  obtain ⟨o1, o2, o3⟩ := push2 ow₁ (r.take k) { cls := .type "slice", data := .fields #[.none, .int k tk₁, .none] }
  exact kt _ _ σ₁ own₁ _ _ p o1 (st₁.trans o2 bd.ow.old) o3

/-- len -/
theorem cv_lenL {d : V} {ds : List V} (q : IsLs σ d ds) (hz : ds.length < 2 ^ 63) (p : Φ (.int ds.length) σ) : CV c n (.builtin "len") [d] σ Φ := by
  refine ⟨fun A own s vs Q E ar ow r k => ?_⟩
  replace r := r.inv; obtain ⟨_, _, rfl, r1, r2⟩ := r
  (first | obtain rfl := r2.inv | obtain ⟨_, rfl⟩ := r2.inv | cases r2)
  obtain ⟨a, vs, m, rfl, hl, r⟩ := q.inv ow r1
  have hlen := r.length
  refine PyProof.Rows.len_list (isList_of hl) (by simp; omega) ?_
  simp only [List.size_toArray, hlen]
  exact k _ _ σ own s.heap _ p ow (.refl _ _ _) (.int _ _)
theorem cv_lenT {ds : List V} (hz : ds.length < 2 ^ 63) (p : Φ (.int ds.length) σ) : CV c n (.builtin "len") [.tup ds] σ Φ := by
  refine ⟨fun A own s vs Q E ar ow r k => ?_⟩
  replace r := r.inv; obtain ⟨_, _, rfl, r1, r2⟩ := r
  (first | obtain rfl := r2.inv | obtain ⟨_, rfl⟩ := r2.inv | cases r2)
  obtain ⟨a, vs, m, rfl, hl, r⟩ := tup_inv r1
  have hlen := r.length
  refine PyProof.Rows.len_tuple ⟨_, hl, rfl, _, rfl⟩ (by simp; omega) ?_
  simp only [List.size_toArray, hlen]
  exact k _ _ σ own s.heap _ p ow (.refl _ _ _) (.int _ _)

/-- methods of lists -/
theorem mok_list {d : V} {ds : List V} {name : Str} {id : String} (q : IsLs σ d ds) (slot : Slot "list" name id) (hty : typeOf (.builtin id) = pure (.type "method_descriptor")) : MOk c σ d name id := by
  refine ⟨fun A own s v pl Q E ow r h => ?_⟩
  obtain ⟨a, vs, m, rfl, hl, r⟩ := q.inv ow r
  refine getMethod_builtin (T := "list") ⟨_, hl, rfl⟩ PySem.F.plainAttrs_list slot hty (fun b e => ?_) h
  cases e; exact ⟨_, hl, rfl⟩
theorem cv_append {a : Addr} {x : V} {ds : List V} (j : Nat) (hc : σ[j]? = some (a, .list ds)) (hz : ds.length ≤ 100000) (p : Φ .none (σ.set j (a, .list (ds ++ [x])))) : CV c n (.builtin "list.append") [.cell a, x] σ Φ := by
  refine ⟨fun A own s vs Q E ar ow r k => ?_⟩
  replace r := r.inv; obtain ⟨_, _, rfl, r1, r2⟩ := r
  replace r2 := r2.inv; obtain ⟨_, _, rfl, r2, r3⟩ := r2
  (first | obtain rfl := r3.inv | obtain ⟨_, rfl⟩ := r3.inv | cases r3)
  obtain ⟨b, vs, m, e0, hl, r⟩ := (IsLs.at_ j hc).inv ow r1
  (first | obtain rfl := r1.inv | obtain ⟨_, rfl⟩ := r1.inv | cases r1); cases e0
  have hlen := r.length
  refine call_meets PySem.F.slot_list_append ⟨_, hl, rfl⟩ PySem.F.entry_list_append (PySem.F.args_list_append_2 _ _) (list_append a vs.toArray m _ (by rw [List.size_toArray, hlen, sizeLine_eq]; omega)) ⟨hl, ?_⟩
  obtain ⟨o1, o2⟩ := ow.set (m' := .list (ds ++ [x])) hc (Heap.SameBut.update _ _ (Obj.mapSeq fun xs => xs.push _)) (IsL.update hl _) (by
    simpa [listO] using MoIs.list (n := _) (r.append (.cons r2 .nil)))
  exact k _ _ _ own _ s.toks p o1 o2 .none
theorem cv_extend {a : Addr} {d : V} {ds es : List V} (j : Nat) (hc : σ[j]? = some (a, .list ds)) (q : d = .list es) (hz : ds.length ≤ 10000) (hz' : es.length ≤ 10000) (p : Φ .none (σ.set j (a, .list (ds ++ es)))) : CV c n (.builtin "list.extend") [.cell a, d] σ Φ := by
  refine ⟨fun A own s vs Q E ar ow r k => ?_⟩
  subst q
  replace r := r.inv; obtain ⟨_, _, rfl, r1, r2⟩ := r
  replace r2 := r2.inv; obtain ⟨_, _, rfl, r2, r3⟩ := r2
  (first | obtain rfl := r3.inv | obtain ⟨_, rfl⟩ := r3.inv | cases r3)
  obtain ⟨b, vs, m, e0, hl, r⟩ := (IsLs.at_ j hc).inv ow r1
  obtain ⟨b', us, m', rfl, hl', r'⟩ := (IsLs.fr (σ := σ)).inv ow r2
  (first | obtain rfl := r1.inv | obtain ⟨_, rfl⟩ := r1.inv | cases r1); cases e0
  have hlen := r.length
  have hlen' := r'.length
  refine call_meets PySem.F.slot_list_extend ⟨_, hl, rfl⟩ PySem.F.entry_list_extend (PySem.F.args_list_extend_2 _ _) (AutoSeq1.list_extend_list_list_0 a vs.toArray m b' us.toArray m' ?_ (by rw [List.size_toArray, sizeLine_eq]; omega) (by rw [List.size_toArray, List.size_toArray, sizeLine_eq]; omega)) ⟨hl, hl', ?_⟩
  · have : Builtin.List.listTooLong (vs.toArray.size + us.toArray.size) = false := by
      rw [List.size_toArray, List.size_toArray]
      unfold Builtin.List.listTooLong
      simp only [decide_eq_false_iff_not, sizeLine_eq]
      omega
    rw [this, Bool.and_false]; exact Bool.false_ne_true
  obtain ⟨o1, o2⟩ := ow.set (m' := .list (ds ++ es)) hc (Heap.SameBut.update _ _ (Obj.mapSeq fun xs => xs ++ us.toArray)) (IsL.update hl _) (by
    simpa [listO] using MoIs.list (n := _) (r.append r'))
  exact k _ _ _ own _ s.toks p o1 o2 .none
theorem Rps.dropLast {w : World} {h : Heap} {vs : List Value} {ds : List V} (r : Rps w h vs ds) : Rps w h vs.dropLast ds.dropLast := by
  induction ds generalizing vs with
  | nil => obtain rfl := r.inv; exact .nil
  | cons d ds ih =>
    replace r := r.inv; obtain ⟨_, _, rfl, r1, r2⟩ := r
    cases ds with
    | nil => obtain rfl := r2.inv; exact .nil
    | cons e ds =>
      have q := ih r2
      replace r2 := r2.inv; obtain ⟨_, _, rfl, _, _⟩ := r2
      exact .cons r1 q
theorem cv_pop {a : Addr} {x : V} {ds : List V} (j : Nat) (hc : σ[j]? = some (a, .list (ds ++ [x]))) (hz : ds.length ≤ 100000) (p : Φ x (σ.set j (a, .list ds))) : CV c n (.builtin "list.pop") [.cell a] σ Φ := by
  refine ⟨fun A own s vs Q E ar ow r k => ?_⟩
  replace r := r.inv; obtain ⟨_, _, rfl, r1, r2⟩ := r
  (first | obtain rfl := r2.inv | obtain ⟨_, rfl⟩ := r2.inv | cases r2)
  obtain ⟨b, vs, m, e0, hl, r⟩ := (IsLs.at_ j hc).inv ow r1
  (first | obtain rfl := r1.inv | obtain ⟨_, rfl⟩ := r1.inv | cases r1); cases e0
  have hlen := r.length
  rw [List.length_append, List.length_singleton] at hlen
  obtain ⟨y, h1, h2⟩ := r.get (k := ds.length) (d := x) (by simp)
  refine call_meets PySem.F.slot_list_pop ⟨_, hl, rfl⟩ PySem.F.entry_list_pop (PySem.F.args_list_pop_1 _) (MeetsSeq.list_pop_last a vs.toArray m y (by rw [List.size_toArray, hlen]; simpa using h1) (by rw [List.size_toArray, sizeLine_eq]; omega)) ⟨hl, ?_⟩
  have e : vs.toArray.eraseIdxIfInBounds (vs.toArray.size - 1) = vs.dropLast.toArray := by
    apply Array.toList_inj.mp
    rw [Array.eraseIdxIfInBounds]
    split
    · rw [Array.toList_eraseIdx]
      simp only [List.size_toArray]
      rw [List.dropLast_eq_take, List.eraseIdx_eq_take_drop_succ]
      have : vs.length - 1 + 1 = vs.length := by omega
      rw [this, List.drop_length, List.append_nil]
    · rename_i q; simp at q; omega
  obtain ⟨o1, o2⟩ := ow.set (m' := .list ds) hc (Heap.SameBut.update _ _ (Obj.mapSeq fun xs => xs.eraseIdxIfInBounds (vs.toArray.size - 1))) (IsL.update hl _) (by
    have := MoIs.list (n := if (vs.toArray.eraseIdxIfInBounds (vs.toArray.size - 1)).size == vs.toArray.size then m else m + 1) r.dropLast
    rw [List.dropLast_concat] at this
    simpa only [listO, e] using this)
  exact k _ _ _ own _ s.toks p o1 o2 (h2.mono (ow.stp o2))

/-- sums of lists, of tuples; a tuple of a list -/
theorem p2_addL {d d' : V} {ds es : List V} (q : IsLs σ d ds) (q' : IsLs σ d' es) (hz : ds.length ≤ 100000) (hz' : es.length ≤ 100000) (p : Φ (.list (ds ++ es)) σ) : P2 c n d d' σ (binaryOp .Add) Φ := by
  refine ⟨fun A own s u v Q E ar ow ra rb k => ?_⟩
  obtain ⟨a, vs, m, rfl, hl, r⟩ := q.inv ow ra
  obtain ⟨b, us, m', rfl, hl', r'⟩ := q'.inv ow rb
  have hlen := r.length
  have hlen' := r'.length
  refine PySem.P.add_list hl hl' ?_ (by rw [List.size_toArray, List.size_toArray, sizeLine_eq]; omega)
  refine k _ _ σ own _ s.toks p (ow.push _) (.quiet (Kp.push [] _ _)) ?_
  refine .list (n := 0) (vs := vs ++ us) ?_ ((r.append r').mono (ow.stp (x' := adr σ) (.quiet (Kp.push [] _ _))))
  have := hide_new ow (ob := { cls := .type "list", data := .seq (vs.toArray ++ us.toArray) }) rfl
  simpa [listO] using this
theorem p2_addT {ds es : List V} (hd : ds ≠ []) (he : es ≠ []) (hz : ds.length ≤ 100000) (hz' : es.length ≤ 100000) (p : Φ (.tup (ds ++ es)) σ) : P2 c n (.tup ds) (.tup es) σ (binaryOp .Add) Φ := by
  refine ⟨fun A own s u v Q E ar ow ra rb k => ?_⟩
  obtain ⟨a, vs, m, rfl, hl, r⟩ := tup_inv ra
  obtain ⟨b, us, m', rfl, hl', r'⟩ := tup_inv rb
  have hlen := r.length
  have hlen' := r'.length
  have ne : vs ≠ [] := fun e => hd (List.length_eq_zero_iff.mp (by rw [← hlen, e]; rfl))
  have ne' : us ≠ [] := fun e => he (List.length_eq_zero_iff.mp (by rw [← hlen', e]; rfl))
  refine PySem.P.add_tuple hl hl' (by simpa using ne) (by simpa using ne') ?_ (by rw [List.size_toArray, List.size_toArray, sizeLine_eq]; omega)
  refine k _ _ σ own _ s.toks p (ow.push _) (.quiet (Kp.push [] _ _)) ?_
  refine .tup (n := 0) (vs := vs ++ us) ?_ ((r.append r').mono (ow.stp (x' := adr σ) (.quiet (Kp.push [] _ _))))
  have := hide_new ow (ob := { cls := .type "tuple", data := .seq (vs.toArray ++ us.toArray) }) rfl
  simpa [tupO] using this
theorem cv_tuple {d : V} {ds : List V} (q : IsLs σ d ds) (hz : ds.length ≤ 100000) (p : Φ (.tup ds) σ) : CV c n (.type "tuple") [d] σ Φ := by
  refine ⟨fun A own s vs Q E ar ow r k => ?_⟩
  replace r := r.inv; obtain ⟨_, _, rfl, r1, r2⟩ := r
  (first | obtain rfl := r2.inv | obtain ⟨_, rfl⟩ := r2.inv | cases r2)
  obtain ⟨a, vs, m, rfl, hl, r⟩ := q.inv ow r1
  have hlen := r.length
  refine call_tuple_list (isList_of hl) (fun h' hk => ?_) (by rw [List.size_toArray, sizeLine_eq]; omega)
  have kp : Kp [] s.heap h' := ⟨fun b o e _ => hk b o e⟩
  have ow1 := ow.quiet kp
  have st : Stp (adr σ) own s.heap (adr σ) own (h'.push (tupO vs 0)) := (Stp.quiet kp).trans (.quiet (Kp.push [] _ _)) ow.old
  exact k _ _ σ own _ s.toks p (ow1.push _) st (.tup (n := 0) (hide_new ow1 rfl) (r.mono (ow.stp st)))
/-- while l: -/
theorem t1_list {d : V} {ds : List V} {Φ : Bool → St → Prop} (q : IsLs σ d ds) (hz : ds.length ≤ 100000) (p : Φ (!ds.isEmpty) σ) : T1 c n d σ Φ := by
  refine ⟨fun A own s v Q E ar ow r k => ?_⟩
  obtain ⟨a, vs, m, rfl, hl, r⟩ := q.inv ow r
  have hlen := r.length
  refine wpAny_truthy_list (isList_of hl) (by simp; omega) ?_
  have : vs.toArray.isEmpty = ds.isEmpty := by
    (first | obtain rfl := r.inv | obtain ⟨_, rfl⟩ := r.inv | cases r) <;> rfl
  rw [this]
  exact k _ σ own s.heap _ p ow (.refl _ _ _)
end
end Mine
end

section
open PySem PySem.W PyProof.Rows PySem.Calls PySem.Spec PySem.SeqAt
set_option maxRecDepth 100000
namespace Mine

/-! equality -/
mutual
noncomputable def veq : V → V → Option Bool
  | .none, .none => some true
  | .bool a, .bool b => some (a == b)
  | .int a, .int b => some (a == b)
  | .str a, .str b => some (a == b)
  | .bytes a, .bytes b => some (decide (a = b))
  | .tup xs, .tup ys => veqs xs ys
  | .list xs, .list ys => veqs xs ys
  | _, _ => none
noncomputable def veqs : List V → List V → Option Bool
  | [], [] => some true
  | [], _ :: _ => some false
  | _ :: _, [] => some false
  | x :: xs, y :: ys => (veq x y).bind fun a => (veqs xs ys).map fun b => a && b
end
mutual
noncomputable def vdep : V → Nat
  | .tup xs => vdeps xs + 1
  | .list xs => vdeps xs + 1
  | _ => 0
noncomputable def vdeps : List V → Nat
  | [] => 0
  | x :: xs => max (vdep x) (vdeps xs)
end
-- data without objects of our own, without dicts
mutual
noncomputable def plainV : V → Bool
  | .none => true
  | .bool _ => true
  | .int _ => true
  | .str _ => true
  | .bytes _ => true
  | .tup xs => plainVs xs
  | .list xs => plainVs xs
  | _ => false
noncomputable def plainVs : List V → Bool
  | [] => true
  | x :: xs => plainV x && plainVs xs
end
mutual
theorem veq_refl : ∀ d : V, plainV d = true → veq d d = some true
  | .none, _ => rfl
  | .bool a, _ => by simp [veq]
  | .int a, _ => by simp [veq]
  | .str a, _ => by simp [veq]
  | .bytes a, _ => by simp [veq]
  | .tup xs, h => by simp only [plainV] at h; simp only [veq]; exact veqs_refl xs h
  | .list xs, h => by simp only [plainV] at h; simp only [veq]; exact veqs_refl xs h
  | .ds _, h => by simp [plainV] at h
  | .di _, h => by simp [plainV] at h
  | .db _, h => by simp [plainV] at h
  | .inst _ _, h => by simp [plainV] at h
  | .cell _, h => by simp [plainV] at h
  | .raw _ _, h => by simp [plainV] at h
  | .obj _, h => by simp [plainV] at h
theorem veqs_refl : ∀ xs : List V, plainVs xs = true → veqs xs xs = some true
  | [], _ => rfl
  | x :: xs, h => by
    simp only [plainVs, Bool.and_eq_true] at h
    simp only [veqs, veq_refl x h.1, veqs_refl xs h.2, Option.bind_some, Option.map_some, Bool.and_self]
end
noncomputable def vpair (xs ys : List V) (j : Nat) : Bool := match xs[j]?, ys[j]? with
  | some x, some y => (veq x y).getD false
  | _, _ => false
theorem vpair_succ {x y : V} {xs ys : List V} {j : Nat} : vpair (x :: xs) (y :: ys) (j + 1) = vpair xs ys j := by simp [vpair]
theorem veqs_all : ∀ {xs ys : List V} {b : Bool}, veqs xs ys = some b → b = ((List.range (min xs.length ys.length)).all (vpair xs ys) && xs.length == ys.length)
  | [], [], b, h => by simp [veqs] at h; simp [h]
  | [], _ :: _, b, h => by simp [veqs] at h; simp [h]
  | _ :: _, [], b, h => by simp [veqs] at h; simp [h]
  | x :: xs, y :: ys, b, h => by
    simp only [veqs] at h
    cases hx : veq x y with
    | none => rw [hx] at h; cases h
    | some a =>
      cases hs : veqs xs ys with
      | none => rw [hx, hs] at h; cases h
      | some e =>
        rw [hx, hs] at h
        simp only [Option.bind_some, Option.map_some, Option.some.injEq] at h
        have ih := veqs_all hs
        have e1 : min (x :: xs).length (y :: ys).length = min xs.length ys.length + 1 := by simp only [List.length_cons]; omega
        rw [← h, e1, List.range_succ_eq_map, List.all_cons, List.all_map]
        have e2 : (vpair (x :: xs) (y :: ys) ∘ Nat.succ) = vpair xs ys := by
          funext j; exact vpair_succ
        have e3 : vpair (x :: xs) (y :: ys) 0 = a := by simp [vpair, hx]
        have e4 : ((x :: xs).length == (y :: ys).length) = (xs.length == ys.length) := by simp [List.length_cons]
        rw [e2, e3, e4, ih, Bool.and_assoc]
theorem veqs_pair : ∀ {xs ys : List V} {b : Bool}, veqs xs ys = some b → xs.length = ys.length ∨ True → ∀ (j : Nat) (x y : V), xs[j]? = some x → ys[j]? = some y → ∃ e, veq x y = some e
  | [], ys, b, h, _, j, x, y, h1, h2 => by simp at h1
  | _ :: _, [], b, h, _, j, x, y, h1, h2 => by simp at h2
  | x :: xs, y :: ys, b, h, _, j, u, v, h1, h2 => by
    simp only [veqs] at h
    cases hx : veq x y with
    | none => rw [hx] at h; cases h
    | some a =>
      cases hs : veqs xs ys with
      | none => rw [hx, hs] at h; cases h
      | some e =>
        cases j with
        | zero =>
          simp only [List.getElem?_cons_zero, Option.some.injEq] at h1 h2
          subst h1 h2
          exact ⟨a, hx⟩
        | succ j => exact veqs_pair hs (.inr trivial) j u v (by simpa using h1) (by simpa using h2)

section
variable {c : Cx} {s : Shared} {own : List Addr}
mutual
theorem veq_same {w : World} {h : Heap} : ∀ (d d' : V) {b : Bool} {v : Value}, veq d d' = some b → Rp w h v d → Rp w h v d' → b = true
  | .none, d', b, v, e, r, r' => by (first | obtain rfl := r.inv | obtain ⟨_, rfl⟩ := r.inv | cases r); (first | obtain rfl := r'.inv | obtain ⟨_, rfl⟩ := r'.inv | cases r') <;> simp [veq] at e; simp [e]
  | .bool _, d', b, v, e, r, r' => by (first | obtain rfl := r.inv | obtain ⟨_, rfl⟩ := r.inv | cases r); (first | obtain rfl := r'.inv | obtain ⟨_, rfl⟩ := r'.inv | cases r') <;> simp [veq] at e; simp [← e]
  | .int _, d', b, v, e, r, r' => by (first | obtain rfl := r.inv | obtain ⟨_, rfl⟩ := r.inv | cases r); (first | obtain rfl := r'.inv | obtain ⟨_, rfl⟩ := r'.inv | cases r') <;> simp [veq] at e; simp [← e]
  | .str _, d', b, v, e, r, r' => by (first | obtain rfl := r.inv | obtain ⟨_, rfl⟩ := r.inv | cases r); (first | obtain rfl := r'.inv | obtain ⟨_, rfl⟩ := r'.inv | cases r') <;> simp [veq] at e; simp [← e]
  | .bytes _, d', b, v, e, r, r' => by
    cases d' <;> simp [veq] at e
    rename_i y x
    have h1 : y = x := by
      (first | obtain rfl := r.inv | obtain ⟨_, rfl⟩ := r.inv | cases r); 
      rename_i t
      generalize hv : Value.bytes y.toArray t = v at r'
      (first | obtain rfl := r'.inv | obtain ⟨_, rfl⟩ := r'.inv | cases r')
      injection hv with hv
      exact (Array.toList_inj.mpr hv)
    simp [h1] at e; exact e
  | .tup xs, d', b, v, e, r, r' => by
    cases d' <;> simp [veq] at e
    rename_i ys
    replace r := r.inv; obtain ⟨_, _, _, rfl, e1, r1⟩ := r
    replace r' := r'.inv; obtain ⟨_, _, _, hq, e2, r2⟩ := r'; cases hq
    rw [e1] at e2
    have e2 : _ = _ := Option.some.inj e2
    have hv := congrArg (fun o : Obj => match o.data with | .seq a _ => a.toList | _ => []) e2
    simp [tupO] at hv
    subst hv
    exact veqs_same xs ys e r1 r2
  | .list xs, d', b, v, e, r, r' => by
    cases d' <;> simp [veq] at e
    rename_i ys
    replace r := r.inv; obtain ⟨_, _, _, rfl, e1, r1⟩ := r
    replace r' := r'.inv; obtain ⟨_, _, _, hq, e2, r2⟩ := r'; cases hq
    rw [e1] at e2
    have e2 : _ = _ := Option.some.inj e2
    have hv := congrArg (fun o : Obj => match o.data with | .seq a _ => a.toList | _ => []) e2
    simp [listO] at hv
    subst hv
    exact veqs_same xs ys e r1 r2
  | .ds _, d', b, v, e, r, r' => by simp [veq] at e
  | .di _, d', b, v, e, r, r' => by simp [veq] at e
  | .db _, d', b, v, e, r, r' => by simp [veq] at e
  | .inst _ _, d', b, v, e, r, r' => by simp [veq] at e
  | .cell _, d', b, v, e, r, r' => by simp [veq] at e
  | .raw _ _, d', b, v, e, r, r' => by simp [veq] at e
  | .obj _, d', b, v, e, r, r' => by simp [veq] at e
theorem veqs_same {w : World} {h : Heap} : ∀ (xs ys : List V) {b : Bool} {vs : List Value}, veqs xs ys = some b → Rps w h vs xs → Rps w h vs ys → b = true
  | [], ys, b, vs, e, r, r' => by (first | obtain rfl := r.inv | obtain ⟨_, rfl⟩ := r.inv | cases r); (first | obtain rfl := r'.inv | obtain ⟨_, rfl⟩ := r'.inv | cases r'); simp [veqs] at e; simp [e]
  | x :: xs, ys, b, vs, e, r, r' => by
    replace r := r.inv; obtain ⟨_, _, rfl, r1, r2⟩ := r
    replace r' := r'.ofCons; obtain ⟨y, ys, rfl, q1, q2⟩ := r'
    simp only [veqs] at e
    cases hx : veq x y with
    | none => rw [hx] at e; cases e
    | some a =>
      cases hs : veqs xs ys with
      | none => rw [hx, hs] at e; cases e
      | some z =>
        rw [hx, hs] at e
        simp only [Option.bind_some, Option.map_some, Option.some.injEq] at e
        rw [← e, veq_same x y hx r1 q1, veqs_same xs ys hs r2 q2]; rfl
end
mutual
theorem eqAt_V : ∀ (d d' : V) {b : Bool} {A : Around} {u v : Value}, veq d d' = some b → Rp c.w (hideAll s.heap own) u d → Rp c.w (hideAll s.heap own) v d' → A.units + vdep d < cLine → EqAt A s u v b
  | .none, d', b, A, u, v, e, r, r', hu => by (first | obtain rfl := r.inv | obtain ⟨_, rfl⟩ := r.inv | cases r); (first | obtain rfl := r'.inv | obtain ⟨_, rfl⟩ := r'.inv | cases r') <;> simp [veq] at e; subst e; exact EqAt.same _
  | .bool _, d', b, A, u, v, e, r, r', hu => by (first | obtain rfl := r.inv | obtain ⟨_, rfl⟩ := r.inv | cases r); (first | obtain rfl := r'.inv | obtain ⟨_, rfl⟩ := r'.inv | cases r') <;> simp [veq] at e; subst e; exact EqAt.bool_bool _ _
  | .int _, d', b, A, u, v, e, r, r', hu => by (first | obtain rfl := r.inv | obtain ⟨_, rfl⟩ := r.inv | cases r); (first | obtain rfl := r'.inv | obtain ⟨_, rfl⟩ := r'.inv | cases r') <;> simp [veq] at e; subst e; exact EqAt.int_int _ _ _ _
  | .str _, d', b, A, u, v, e, r, r', hu => by (first | obtain rfl := r.inv | obtain ⟨_, rfl⟩ := r.inv | cases r); (first | obtain rfl := r'.inv | obtain ⟨_, rfl⟩ := r'.inv | cases r') <;> simp [veq] at e; subst e; exact EqAt.str_str _ _ _ _
  | .bytes _, d', b, A, u, v, e, r, r', hu => by (first | obtain rfl := r.inv | obtain ⟨_, rfl⟩ := r.inv | cases r); (first | obtain rfl := r'.inv | obtain ⟨_, rfl⟩ := r'.inv | cases r') <;> simp [veq] at e; subst e; exact fun prog w E Q hq => eqBool_bytes (by simpa using hq)
  | .tup xs, d', b, A, u, v, e, r, r', hu => by
    cases d' <;> simp only [veq] at e
    all_goals try (cases e; done)
    rename_i ys
    have hb := veq_same (w := c.w) (h := hideAll s.heap own) (.tup xs) (.tup ys) (b := b) (v := u) (by simpa only [veq] using e) r
    replace r := r.inv; obtain ⟨_, _, _, rfl, e1, r1⟩ := r
    replace r' := r'.inv; obtain ⟨_, _, _, hq, e2, r2⟩ := r'; cases hq
    rename_i a1 vs1 n1 a2 vs2 n2
    by_cases q : a1 = a2
    · subst q
      rw [hb (.tup e2 r2)]; exact EqAt.same _
    · simp only [vdep] at hu
      have l1 := r1.length
      have l2 := r2.length
      have := RcAt.tuples (A := A) (s := s) (items := vs1.toArray) (items2 := vs2.toArray) (e := vpair xs ys) ⟨_, of_hideAll _ e1, rfl, _, rfl⟩ ⟨_, of_hideAll _ e2, rfl, _, rfl⟩ (by omega) fun j h1 h2 => by
        have := eqAts_V xs ys (A := A.in1) (us := vs1) (vs := vs2) (veqs_pair e (.inr trivial)) r1 r2 (by show A.units + 1 + vdeps xs < cLine; omega) j (by simpa using h1) (by simpa using h2)
        simpa using this
      simp only [List.size_toArray, l1, l2] at this
      rw [veqs_all e]
      exact EqAt.of_refs q this
  | .list xs, d', b, A, u, v, e, r, r', hu => by
    cases d' <;> simp only [veq] at e
    all_goals try (cases e; done)
    rename_i ys
    have hb := veq_same (w := c.w) (h := hideAll s.heap own) (.list xs) (.list ys) (b := b) (v := u) (by simpa only [veq] using e) r
    replace r := r.inv; obtain ⟨_, _, _, rfl, e1, r1⟩ := r
    replace r' := r'.inv; obtain ⟨_, _, _, hq, e2, r2⟩ := r'; cases hq
    rename_i a1 vs1 n1 a2 vs2 n2
    by_cases q : a1 = a2
    · subst q
      rw [hb (.list e2 r2)]; exact EqAt.same _
    · simp only [vdep] at hu
      have l1 := r1.length
      have l2 := r2.length
      by_cases hsz : xs.length = ys.length
      · have := RcAt.lists (A := A) (s := s) (items := vs1.toArray) (items2 := vs2.toArray) (e := vpair xs ys) (isList_of (of_hideAll _ e1)) (isList_of (of_hideAll _ e2)) (by simp; omega) (by omega) fun j h1 h2 => by
          have := eqAts_V xs ys (A := A.in1) (us := vs1) (vs := vs2) (veqs_pair e (.inr trivial)) r1 r2 (by show A.units + 1 + vdeps xs < cLine; omega) j (by simpa using h1) (by simpa using h2)
          simpa using this
        simp only [List.size_toArray, l1] at this
        rw [veqs_all e, hsz, Nat.min_self, beq_self_eq_true, Bool.and_true, ← hsz]
        exact EqAt.of_refs q this
      · have := RcAt.lists_lengths (A := A) (s := s) (items := vs1.toArray) (items2 := vs2.toArray) (isList_of (of_hideAll _ e1)) (isList_of (of_hideAll _ e2)) (by simp; omega) (by omega)
        rw [veqs_all e, beq_eq_false_iff_ne.mpr hsz, Bool.and_false]
        exact EqAt.of_refs q this
  | .ds _, d', b, A, u, v, e, r, r', hu => by simp [veq] at e
  | .di _, d', b, A, u, v, e, r, r', hu => by simp [veq] at e
  | .db _, d', b, A, u, v, e, r, r', hu => by simp [veq] at e
  | .inst _ _, d', b, A, u, v, e, r, r', hu => by simp [veq] at e
  | .cell _, d', b, A, u, v, e, r, r', hu => by simp [veq] at e
  | .raw _ _, d', b, A, u, v, e, r, r', hu => by simp [veq] at e
  | .obj _, d', b, A, u, v, e, r, r', hu => by simp [veq] at e
theorem eqAts_V : ∀ (xs ys : List V) {A : Around} {us vs : List Value}, (∀ (j : Nat) (x y : V), xs[j]? = some x → ys[j]? = some y → ∃ e, veq x y = some e) → Rps c.w (hideAll s.heap own) us xs → Rps c.w (hideAll s.heap own) vs ys → A.units + vdeps xs < cLine →
    ∀ j (h1 : j < us.length) (h2 : j < vs.length), EqAt A s us[j] vs[j] (vpair xs ys j)
  | [], ys, A, us, vs, hp, r, r', hu, j, h1, h2 => by (first | obtain rfl := r.inv | obtain ⟨_, rfl⟩ := r.inv | cases r); simp at h1
  | x :: xs, ys, A, us, vs, hp, r, r', hu, j, h1, h2 => by
    replace r := r.inv; obtain ⟨_, _, rfl, r1, r2⟩ := r
    cases r' with
    | nil => simp at h2
    | @cons _ y _ ys q1 q2 =>
      simp only [vdeps] at hu
      cases j with
      | zero =>
        obtain ⟨e, he⟩ := hp 0 x y rfl rfl
        have : vpair (x :: xs) (y :: ys) 0 = e := by simp [vpair, he]
        rw [this]
        exact eqAt_V x y he r1 q1 (by omega)
      | succ j =>
        rw [vpair_succ]
        exact eqAts_V xs ys (fun j u v h1 h2 => hp (j + 1) u v (by simpa using h1) (by simpa using h2)) r2 q2 (by omega) j (by simpa using h1) (by simpa using h2)
end
end
section
variable {c : Cx} {env : Env} {n : Nat} {Γ : Gm} {σ : St} {Φ : V → St → Prop} {Ψ : Fl → Gm → St → Prop}

theorem Ar.room {A : Around} (ar : Ar n A) {k : Nat} (h : k ≤ 800) : A.units + k < cLine := by
  have := ar.units
  show A.units + k < 9900
  omega
theorem p2_eqS {a b : Str} (p : Φ (.bool (a == b)) σ) : P2 c n (.str a) (.str b) σ (compareOp .Eq) Φ := by
  refine ⟨fun A own s u v Q E ar ow ra rb k => ?_⟩
  (first | obtain rfl := ra.inv | obtain ⟨_, rfl⟩ := ra.inv | cases ra); (first | obtain rfl := rb.inv | obtain ⟨_, rfl⟩ := rb.inv | cases rb)
  exact RcAt.str_str _ _ _ _ _ _ E _ (k _ _ σ own s.heap s.toks p ow (.refl _ _ _) (.bool _))
theorem p2_neS {a b : Str} (p : Φ (.bool (!(a == b))) σ) : P2 c n (.str a) (.str b) σ (compareOp .NotEq) Φ := by
  refine ⟨fun A own s u v Q E ar ow ra rb k => ?_⟩
  (first | obtain rfl := ra.inv | obtain ⟨_, rfl⟩ := ra.inv | cases ra); (first | obtain rfl := rb.inv | obtain ⟨_, rfl⟩ := rb.inv | cases rb)
  exact RcNeAt.str_str _ _ _ _ _ _ E _ (k _ _ σ own s.heap s.toks p ow (.refl _ _ _) (.bool _))
theorem p2_neN (p : Φ (.bool false) σ) : P2 c n .none .none σ (compareOp .NotEq) Φ := by
  refine ⟨fun A own s u v Q E ar ow ra rb k => ?_⟩
  (first | obtain rfl := ra.inv | obtain ⟨_, rfl⟩ := ra.inv | cases ra); (first | obtain rfl := rb.inv | obtain ⟨_, rfl⟩ := rb.inv | cases rb)
  exact RcNeAt.none_none _ _ E _ (k _ _ σ own s.heap s.toks p ow (.refl _ _ _) (.bool _))
theorem p2_eqT {xs ys : List V} {b : Bool} (e : veqs xs ys = some b) (hd : vdeps xs ≤ 500) (p : Φ (.bool b) σ) : P2 c n (.tup xs) (.tup ys) σ (compareOp .Eq) Φ := by
  refine ⟨fun A own s u v Q E ar ow ra rb k => ?_⟩
  obtain ⟨a, vs, m, rfl, hl, r⟩ := tup_inv ra
  obtain ⟨a', vs', m', rfl, hl', r'⟩ := tup_inv rb
  have l1 := r.length
  have l2 := r'.length
  have := RcAt.tuples (A := A) (s := s) (items := vs.toArray) (items2 := vs'.toArray) (e := vpair xs ys) ⟨_, hl, rfl, _, rfl⟩ ⟨_, hl', rfl, _, rfl⟩ (ar.room (k := 0) (by omega)) fun j h1 h2 => by
    have := eqAts_V (c := c) (own := own) xs ys (A := A.in1) (us := vs) (vs := vs') (veqs_pair e (.inr trivial)) r r' (by have := ar.room (k := 1 + vdeps xs) (by omega); show A.units + 1 + vdeps xs < cLine; omega) j (by simpa using h1) (by simpa using h2)
    simpa using this
  simp only [List.size_toArray, l1, l2] at this
  rw [← veqs_all e] at this
  exact this _ _ E _ (k _ _ σ own s.heap s.toks p ow (.refl _ _ _) (.bool _))
theorem p2_neT {xs ys : List V} {b : Bool} (e : veqs xs ys = some b) (hd : vdeps xs ≤ 500) (p : Φ (.bool (!b)) σ) : P2 c n (.tup xs) (.tup ys) σ (compareOp .NotEq) Φ := by
  refine ⟨fun A own s u v Q E ar ow ra rb k => ?_⟩
  obtain ⟨a, vs, m, rfl, hl, r⟩ := tup_inv ra
  obtain ⟨a', vs', m', rfl, hl', r'⟩ := tup_inv rb
  have l1 := r.length
  have l2 := r'.length
  have := RcNeAt.tuples (A := A) (s := s) (items := vs.toArray) (items2 := vs'.toArray) (e := vpair xs ys) ⟨_, hl, rfl, _, rfl⟩ ⟨_, hl', rfl, _, rfl⟩ (ar.room (k := 0) (by omega)) fun j h1 h2 => by
    have := eqAts_V (c := c) (own := own) xs ys (A := A.in1) (us := vs) (vs := vs') (veqs_pair e (.inr trivial)) r r' (by have := ar.room (k := 1 + vdeps xs) (by omega); show A.units + 1 + vdeps xs < cLine; omega) j (by simpa using h1) (by simpa using h2)
    simpa using this
  simp only [List.size_toArray, l1, l2] at this
  rw [← veqs_all e] at this
  exact this _ _ E _ (k _ _ σ own s.heap s.toks p ow (.refl _ _ _) (.bool _))
theorem p2_eqL {d d' : V} {xs ys : List V} {b : Bool} (q : IsLs σ d xs) (q' : IsLs σ d' ys) (e : veqs xs ys = some b) (hd : vdeps xs ≤ 500) (p : Φ (.bool b) σ) : P2 c n d d' σ (compareOp .Eq) Φ := by
  refine ⟨fun A own s u v Q E ar ow ra rb k => ?_⟩
  obtain ⟨a, vs, m, rfl, hl, r⟩ := q.inv ow ra
  obtain ⟨a', vs', m', rfl, hl', r'⟩ := q'.inv ow rb
  have l1 := r.length
  have l2 := r'.length
  have kk := k _ _ σ own s.heap s.toks p ow (.refl _ _ _) (.bool b)
  by_cases hsz : xs.length = ys.length
  · have := RcAt.lists (A := A) (s := s) (items := vs.toArray) (items2 := vs'.toArray) (e := vpair xs ys) (isList_of hl) (isList_of hl') (by simp; omega) (ar.room (k := 0) (by omega)) fun j h1 h2 => by
      have := eqAts_V (c := c) (own := own) xs ys (A := A.in1) (us := vs) (vs := vs') (veqs_pair e (.inr trivial)) r r' (by have := ar.room (k := 1 + vdeps xs) (by omega); show A.units + 1 + vdeps xs < cLine; omega) j (by simpa using h1) (by simpa using h2)
      simpa using this
    simp only [List.size_toArray, l1] at this
    have e1 : b = (List.range xs.length).all (vpair xs ys) := by rw [veqs_all e, ← hsz, Nat.min_self, beq_self_eq_true, Bool.and_true]
    rw [← e1] at this
    exact this _ _ E _ kk
  · have := RcAt.lists_lengths (A := A) (s := s) (items := vs.toArray) (items2 := vs'.toArray) (isList_of hl) (isList_of hl') (by simp; omega) (ar.room (k := 0) (by omega))
    have e1 : b = false := by rw [veqs_all e, beq_eq_false_iff_ne.mpr hsz, Bool.and_false]
    rw [← e1] at this
    exact this _ _ E _ kk
theorem p2_neL {d d' : V} {xs ys : List V} {b : Bool} (q : IsLs σ d xs) (q' : IsLs σ d' ys) (e : veqs xs ys = some b) (hd : vdeps xs ≤ 500) (p : Φ (.bool (!b)) σ) : P2 c n d d' σ (compareOp .NotEq) Φ := by
  refine ⟨fun A own s u v Q E ar ow ra rb k => ?_⟩
  obtain ⟨a, vs, m, rfl, hl, r⟩ := q.inv ow ra
  obtain ⟨a', vs', m', rfl, hl', r'⟩ := q'.inv ow rb
  have l1 := r.length
  have l2 := r'.length
  have kk := k _ _ σ own s.heap s.toks p ow (.refl _ _ _) (.bool (!b))
  by_cases hsz : xs.length = ys.length
  · have := RcNeAt.lists (A := A) (s := s) (items := vs.toArray) (items2 := vs'.toArray) (e := vpair xs ys) (isList_of hl) (isList_of hl') (by simp; omega) (ar.room (k := 0) (by omega)) fun j h1 h2 => by
      have := eqAts_V (c := c) (own := own) xs ys (A := A.in1) (us := vs) (vs := vs') (veqs_pair e (.inr trivial)) r r' (by have := ar.room (k := 1 + vdeps xs) (by omega); show A.units + 1 + vdeps xs < cLine; omega) j (by simpa using h1) (by simpa using h2)
      simpa using this
    simp only [List.size_toArray, l1] at this
    have e1 : b = (List.range xs.length).all (vpair xs ys) := by rw [veqs_all e, ← hsz, Nat.min_self, beq_self_eq_true, Bool.and_true]
    rw [← e1] at this
    exact this _ _ E _ kk
  · have := RcNeAt.lists_lengths (A := A) (s := s) (items := vs.toArray) (items2 := vs'.toArray) (isList_of hl) (isList_of hl') (by simp; omega) (ar.room (k := 0) (by omega))
    have e1 : b = false := by rw [veqs_all e, beq_eq_false_iff_ne.mpr hsz, Bool.and_false]
    have e2 : (!b) = true := by rw [e1]; rfl
    rw [← e2] at this
    exact this _ _ E _ kk

mutual
theorem veq_uniq {w : World} {h : Heap} : ∀ (x d d' : V) {b b' : Bool} {v : Value}, veq d x = some b → veq d' x = some b' → Rp w h v d → Rp w h v d' → b = b'
  | .none, d, d', b, b', v, e, e', r, r' => by cases d <;> simp [veq] at e; cases d' <;> simp [veq] at e'; rw [e, e']
  | .bool z, d, d', b, b', v, e, e', r, r' => by
    cases d <;> simp [veq] at e
    cases d' <;> simp [veq] at e'
    (first | obtain rfl := r.inv | obtain ⟨_, rfl⟩ := r.inv | cases r); (first | obtain rfl := r'.inv | obtain ⟨_, rfl⟩ := r'.inv | cases r'); rw [← e, ← e']
  | .int z, d, d', b, b', v, e, e', r, r' => by
    cases d <;> simp [veq] at e
    cases d' <;> simp [veq] at e'
    (first | obtain rfl := r.inv | obtain ⟨_, rfl⟩ := r.inv | cases r); (first | obtain rfl := r'.inv | obtain ⟨_, rfl⟩ := r'.inv | cases r'); rw [← e, ← e']
  | .str z, d, d', b, b', v, e, e', r, r' => by
    cases d <;> simp [veq] at e
    cases d' <;> simp [veq] at e'
    (first | obtain rfl := r.inv | obtain ⟨_, rfl⟩ := r.inv | cases r); (first | obtain rfl := r'.inv | obtain ⟨_, rfl⟩ := r'.inv | cases r'); rw [← e, ← e']
  | .bytes z, d, d', b, b', v, e, e', r, r' => by
    cases d <;> simp [veq] at e
    cases d' <;> simp [veq] at e'
    rename_i y x
    have h1 : y = x := by
      (first | obtain rfl := r.inv | obtain ⟨_, rfl⟩ := r.inv | cases r)
      rename_i t
      generalize hv : Value.bytes y.toArray t = v at r'
      (first | obtain rfl := r'.inv | obtain ⟨_, rfl⟩ := r'.inv | cases r')
      injection hv with hv
      exact (Array.toList_inj.mpr hv)
    rw [← e, ← e', h1]
  | .tup zs, d, d', b, b', v, e, e', r, r' => by
    cases d <;> simp [veq] at e
    cases d' <;> simp [veq] at e'
    rename_i xs ys
    replace r := r.inv; obtain ⟨_, _, _, rfl, e1, r1⟩ := r
    replace r' := r'.inv; obtain ⟨_, _, _, hq, e2, r2⟩ := r'; cases hq
    rw [e1] at e2
    have e2 : _ = _ := Option.some.inj e2
    have hv := congrArg (fun o : Obj => match o.data with | .seq a _ => a.toList | _ => []) e2
    simp at hv
    subst hv
    exact veqs_uniq zs xs ys e e' r1 r2
  | .list zs, d, d', b, b', v, e, e', r, r' => by
    cases d <;> simp [veq] at e
    cases d' <;> simp [veq] at e'
    rename_i xs ys
    replace r := r.inv; obtain ⟨_, _, _, rfl, e1, r1⟩ := r
    replace r' := r'.inv; obtain ⟨_, _, _, hq, e2, r2⟩ := r'; cases hq
    rw [e1] at e2
    have e2 : _ = _ := Option.some.inj e2
    have hv := congrArg (fun o : Obj => match o.data with | .seq a _ => a.toList | _ => []) e2
    simp at hv
    subst hv
    exact veqs_uniq zs xs ys e e' r1 r2
  | .ds _, d, d', b, b', v, e, e', r, r' => by cases d <;> simp [veq] at e
  | .di _, d, d', b, b', v, e, e', r, r' => by cases d <;> simp [veq] at e
  | .db _, d, d', b, b', v, e, e', r, r' => by cases d <;> simp [veq] at e
  | .inst _ _, d, d', b, b', v, e, e', r, r' => by cases d <;> simp [veq] at e
  | .cell _, d, d', b, b', v, e, e', r, r' => by cases d <;> simp [veq] at e
  | .raw _ _, d, d', b, b', v, e, e', r, r' => by cases d <;> simp [veq] at e
  | .obj _, d, d', b, b', v, e, e', r, r' => by cases d <;> simp [veq] at e
theorem veqs_uniq {w : World} {h : Heap} : ∀ (zs xs ys : List V) {b b' : Bool} {vs : List Value}, veqs xs zs = some b → veqs ys zs = some b' → Rps w h vs xs → Rps w h vs ys → b = b'
  | [], xs, ys, b, b', vs, e, e', r, r' => by
    cases r with
    | nil => (first | obtain rfl := r'.inv | obtain ⟨_, rfl⟩ := r'.inv | cases r'); rw [e] at e'; exact Option.some.inj e'
    | cons _ _ => cases r' with
      | cons _ _ => simp [veqs] at e e'; rw [e, e']
  | z :: zs, xs, ys, b, b', vs, e, e', r, r' => by
    cases r with
    | nil => (first | obtain rfl := r'.inv | obtain ⟨_, rfl⟩ := r'.inv | cases r'); rw [e] at e'; exact Option.some.inj e'
    | @cons _ x _ xs r1 r2 =>
      replace r' := r'.ofCons; obtain ⟨y, ys, rfl, q1, q2⟩ := r'
      simp only [veqs] at e e'
      cases hx : veq x z with
      | none => rw [hx] at e; cases e
      | some a =>
        cases hs : veqs xs zs with
        | none => rw [hx, hs] at e; cases e
        | some t =>
          cases hx' : veq y z with
          | none => rw [hx'] at e'; cases e'
          | some a' =>
            cases hs' : veqs ys zs with
            | none => rw [hx', hs'] at e'; cases e'
            | some t' =>
              rw [hx, hs] at e
              rw [hx', hs'] at e'
              simp only [Option.bind_some, Option.map_some, Option.some.injEq] at e e'
              rw [← e, ← e', veq_uniq z x y hx hx' r1 q1, veqs_uniq zs xs ys hs hs' r2 q2]
end
theorem vdep_mem {d : V} : ∀ {ds : List V}, d ∈ ds → vdep d ≤ vdeps ds
  | z :: ds, h => by
    simp only [vdeps]
    cases h with
    | head => omega
    | tail _ h => have := vdep_mem h; omega
theorem Rps.mem {w : World} {h : Heap} {y : Value} {vs : List Value} {ds : List V} (r : Rps w h vs ds) (hy : y ∈ vs) : ∃ d ∈ ds, Rp w h y d := by
  induction ds generalizing vs with
  | nil => obtain rfl := r.inv; exact (nomatch hy)
  | cons d ds ih =>
    replace r := r.inv; obtain ⟨_, _, rfl, r1, r2⟩ := r
    rcases List.mem_cons.mp hy with rfl | hy
    · exact ⟨_, .head _, r1⟩
    · obtain ⟨d, h1, h2⟩ := ih r2 hy; exact ⟨d, .tail _ h1, h2⟩
theorem Rps.any {w : World} {h : Heap} (e : Value → Bool) (f : V → Bool) {vs : List Value} {ds : List V} (r : Rps w h vs ds) (hf : ∀ y d, d ∈ ds → Rp w h y d → e y = f d) : vs.any e = ds.any f := by
  induction ds generalizing vs with
  | nil => obtain rfl := r.inv; rfl
  | cons d ds ih =>
    replace r := r.inv; obtain ⟨_, _, rfl, r1, r2⟩ := r
    rw [List.any_cons, List.any_cons, hf _ _ (.head _) r1, ih r2 fun y d hd r => hf y d (.tail _ hd) r]
/-- x in a tuple, in a list -/
theorem in_core {ds : List V} {x : V} (hv : ∀ y ∈ ds, ∃ b, veq y x = some b) (hd : vdeps ds ≤ 500) {A : Around} (ar : Ar n A) {own : List Addr} {s : Shared} {v : Value} {vs : List Value} (r : Rps c.w (hideAll s.heap own) vs ds) (rx : Rp c.w (hideAll s.heap own) v x) :
    ∃ e : Value → Bool, (∀ y d, d ∈ ds → Rp c.w (hideAll s.heap own) y d → e y = (veq d x).getD false) ∧ (∀ y, y ∈ vs.toArray → EqAt A.in1 s y v (e y)) ∧ vs.toArray.any e = ds.any fun y => (veq y x).getD false := by
  classical
  refine ⟨fun y => decide (∃ d ∈ ds, Rp c.w (hideAll s.heap own) y d ∧ veq d x = some true), ?_⟩
  have key : ∀ y d, d ∈ ds → Rp c.w (hideAll s.heap own) y d → decide (∃ d ∈ ds, Rp c.w (hideAll s.heap own) y d ∧ veq d x = some true) = (veq d x).getD false := by
    intro y d h1 h2
    obtain ⟨b, hb⟩ := hv d h1
    rw [hb, Option.getD_some]
    cases b with
    | true => exact decide_eq_true ⟨d, h1, h2, hb⟩
    | false =>
      refine decide_eq_false ?_
      rintro ⟨d', q1, q2, q3⟩
      exact Bool.noConfusion (veq_uniq x d d' hb q3 h2 q2)
  refine ⟨key, fun y hy => ?_, ?_⟩
  · obtain ⟨d, h1, h2⟩ := r.mem (by simpa using hy)
    show EqAt A.in1 s y v (decide (∃ d ∈ ds, Rp c.w (hideAll s.heap own) y d ∧ veq d x = some true))
    rw [key y d h1 h2]
    obtain ⟨b, hb⟩ := hv d h1
    rw [hb, Option.getD_some]
    have := vdep_mem h1
    exact eqAt_V (c := c) (own := own) d x hb h2 rx (by have := ar.room (k := 1 + vdep d) (by omega); show A.units + 1 + vdep d < cLine; omega)
  · rw [← Array.any_toList]
    exact r.any _ _ key
theorem p2_inT {ds : List V} {x : V} (hv : ∀ y ∈ ds, ∃ b, veq y x = some b) (hd : vdeps ds ≤ 500) (p : Φ (.bool (ds.any fun y => (veq y x).getD false)) σ) : P2 c n x (.tup ds) σ (compareOp .In) Φ := by
  refine ⟨fun A own s u v Q E ar ow rx rt k => ?_⟩
  obtain ⟨a, vs, m, rfl, hl, r⟩ := tup_inv rt
  obtain ⟨e, h0, h1, h2⟩ := in_core hv hd ar r rx
  exact in_tupleAt e ⟨_, hl, rfl, _, rfl⟩ h1 (by rw [h2]; exact k _ _ σ own s.heap s.toks p ow (.refl _ _ _) (.bool _))
theorem p2_inL {d : V} {ds : List V} {x : V} (q : IsLs σ d ds) (hv : ∀ y ∈ ds, ∃ b, veq y x = some b) (hd : vdeps ds ≤ 500) (p : Φ (.bool (ds.any fun y => (veq y x).getD false)) σ) : P2 c n x d σ (compareOp .In) Φ := by
  refine ⟨fun A own s u v Q E ar ow rx rt k => ?_⟩
  obtain ⟨a, vs, m, rfl, hl, r⟩ := q.inv ow rt
  obtain ⟨e, h0, h1, h2⟩ := in_core hv hd ar r rx
  exact in_listAt e (isList_of hl) h1 (by rw [h2]; exact k _ _ σ own s.heap s.toks p ow (.refl _ _ _) (.bool _))
theorem cv_index {d : V} {ds : List V} {x : V} {j : Nat} (q : IsLs σ d ds) (hv : ∀ y ∈ ds, ∃ b, veq y x = some b) (hd : vdeps ds ≤ 500) (hj : j < 100000) {y : V} (hy : ds[j]? = some y) (hh : veq y x = some true)
    (hb : ∀ (i : Nat) z, i < j → ds[i]? = some z → veq z x = some false) (p : Φ (.int j) σ) : CV c n (.builtin "list.index") [d, x] σ Φ := by
  refine ⟨fun A own s vs Q E ar ow r k => ?_⟩
  replace r := r.inv; obtain ⟨_, _, rfl, r1, r2⟩ := r
  replace r2 := r2.inv; obtain ⟨_, _, rfl, rx, r3⟩ := r2
  (first | obtain rfl := r3.inv | obtain ⟨_, rfl⟩ := r3.inv | cases r3)
  obtain ⟨a, vs, m, rfl, hl, r⟩ := q.inv ow r1
  obtain ⟨e, h0, h1, h2⟩ := in_core hv hd ar r rx
  obtain ⟨u, hu, ru⟩ := r.get hy
  have hlt : j < vs.length := (List.getElem?_eq_some_iff.mp hu).1
  have hu' : vs[j] = u := (List.getElem?_eq_some_iff.mp hu).2
  refine call_meets PySem.F.slot_list_index ⟨_, hl, rfl⟩ PySem.F.entry_list_index (PySem.F.args_list_index_2 _ _) (list_indexAt a vs.toArray m none #[] _ e j (by simpa using hlt) (by omega) ?_ ?_) ⟨hl, h1, ?_⟩
  · rw [List.getElem_toArray, hu', h0 u y (List.mem_of_getElem? hy) ru, hh]; rfl
  · intro i hi hij
    have hi' : i < ds.length := by rw [← r.length]; simpa using hi
    have hz : ds[i]? = some ds[i] := List.getElem?_eq_getElem hi'
    obtain ⟨u', hu', ru'⟩ := r.get hz
    have e1 : vs.toArray[i] = u' := by rw [List.getElem_toArray]; exact (List.getElem?_eq_some_iff.mp hu').2
    rw [e1, h0 u' _ (List.mem_of_getElem? hz) ru', hb i _ hij hz]; rfl
  · exact k _ _ σ own s.heap _ p ow (.refl _ _ _) (.int _ _)
end
end Mine
end

section
open PySem PySem.W PyProof.Rows PySem.Calls PySem.Spec
set_option maxRecDepth 100000
namespace Mine

section
variable {c : Cx} {env : Env} {n : Nat} {Γ : Gm} {σ : St} {Φ : V → St → Prop} {Ψ : Fl → Gm → St → Prop}

/-- a step that touches hidden places alone -/
theorem Ow.gen {own own' x : List Addr} {h h' : Heap} (o : Ow c own σ h) (k : Kp x h h') (hx : ∀ z ∈ x, z ∈ own ∧ z ∉ adr σ) (hs : ∀ z ∈ own', (z ∈ own ∨ h.get? z = none) ∧ ∃ ob, h'.get? z = some ob) (hk : ∀ z ∈ own, z ∈ own' ∨ z ∈ x) :
    Ow c own' σ h' ∧ (hideAll h own).StaysIn (hideAll h' own') := by
  have st : (hideAll h own).StaysIn (hideAll h' own') := hide_stays k (fun z q => (hx z q).1) fun z q => (hs z q).1
  refine ⟨⟨fun b x e => st b x (o.top b x e), fun z q => (hk z (o.sub z q)).elim id fun w => absurd q (hx z w).2, o.nd, fun z q => (hs z q).2, fun p hp => ?_, o.sys⟩, st⟩
  obtain ⟨ob, h1, h2⟩ := o.cells p hp
  exact ⟨ob, k.keep _ _ h1 (fun q => (hx _ q).2 (List.mem_map_of_mem hp)), h2.mono st⟩
theorem Bd.gen {own own' x : List Addr} {h h' : Heap} (bd : Bd c env own Γ σ h) (k : Kp x h h') (hx : ∀ z ∈ x, z ∈ own ∧ z ∉ adr σ ∧ z ≠ env.locals ∧ ∀ p ∈ env.cells, p.2 ≠ z) (hs : ∀ z ∈ own', (z ∈ own ∨ h.get? z = none) ∧ ∃ ob, h'.get? z = some ob) (hk : ∀ z ∈ own, z ∈ own' ∨ z ∈ x) :
    Bd c env own' Γ σ h' := by
  obtain ⟨o, st⟩ := bd.ow.gen k (fun z q => ⟨(hx z q).1, (hx z q).2.1⟩) hs hk
  have hL : env.locals ∉ x := fun q => (hx _ q).2.2.1 rfl
  refine ⟨o, bd.ok, ⟨(hk _ bd.loc.1).elim id fun q => absurd q hL, bd.loc.2⟩, fun p hp => ?_, bd.nd, ?_⟩
  · obtain ⟨c1, c2, c3, v, ob, c4, c5⟩ := bd.cel p hp
    have hn : p.2 ∉ x := fun q => (hx _ q).2.2.2 p hp rfl
    exact ⟨(hk _ c1).elim id fun q => absurd q hn, c2, c3, v, ob, k.keep _ _ c4 hn, c5⟩
  · obtain ⟨m, ⟨oL, es, ep, hl, r⟩, hv⟩ := bd.ns
    refine ⟨m, ⟨oL, es, ep, k.keep _ _ hl hL, r⟩, fun y d e => ?_⟩
    rcases hv y d e with ⟨w, v, h1, h2⟩ | ⟨w, ad, v, h1, ⟨oc, h2, h3⟩, h4⟩
    · exact .inl ⟨w, v, h1, h2.mono st⟩
    · exact .inr ⟨w, ad, v, h1, ⟨oc, k.keep _ _ h2 (fun q => (hx _ q).2.2.2 _ (lookup_mem h1) rfl), h3⟩, h4.mono st⟩

/-! iteration -/
noncomputable def ownedIters : List String := ["enumerate", "zip", "dict_itemiterator", "dict_reverseitemiterator", "odict_iterator", "itertools.zip_longest", "itertools.pairwise"]
noncomputable def ItObj (h : Heap) (I : Addr) : Prop := ∃ o T, h.get? I = some o ∧ o.cls = .type T ∧ ownedIters.contains T = false
theorem letGo_ {A : Around} {s : Shared} {I : Addr} {target : Expr} {v : Value} {Q : Unit → Shared → Prop} {E : Value → Shared → Prop} (hi : ItObj s.heap I) (h : Q () s) : wpAny c.M A (letOwnedTupleGo target (.ref I) v) Q E s := by
  obtain ⟨o, T, ho, hc, hn⟩ := hi
  have core : ∀ a : Addr, wpAny c.M A (do
      let o ← load I
      match o.cls, o.data with
      | .type n, .fields vs =>
        if ["enumerate", "zip", "dict_itemiterator", "dict_reverseitemiterator", "odict_iterator", "itertools.zip_longest", "itertools.pairwise"].contains n && vs[0]? == some (rawInt a) then
          rule "for.unpacks-the-owned-tuple"
          updateField I 0 .none
      | _, _ => pure ()) Q E s := fun a => by
    refine wpAny_bind (wpAny_load ho ?_)
    rw [hc]
    cases o.data with
    | fields vs =>
      dsimp only
      rw [if_neg (by
        intro z
        rw [Bool.and_eq_true] at z
        have z1 := z.1
        change ownedIters.contains _ = true at z1
        rw [hn] at z1; cases z1)]
      exact wpAny_pure h
    | _ => exact wpAny_pure h
  cases target with
  | Tuple es k p =>
    cases v with
    | ref a => exact core a
    | _ => exact wpAny_pure h
  | List es p =>
    cases v with
    | ref a => exact core a
    | _ => exact wpAny_pure h
  | _ => exact wpAny_pure h

/-- an iterator, hidden, and what it still has to hand out -/
noncomputable def Src (c : Cx) (A : Around) (I : Addr) (own : List Addr) (h : Heap) (ds : List V) : Prop :=
  ∃ (fp : List Addr) (P : Nat → Value → Prop) (S : Nat → Heap → Prop) (i N : Nat), Walks prg c.w A I fp [I] N P S ∧ S i h ∧ i + ds.length = N ∧ (∀ b ∈ fp, b = I ∨ ∃ o, (hideAll h own).get? b = some o) ∧
    (∀ j v, P (i + j) v → ∃ d, ds[j]? = some d ∧ Rp c.w (hideAll h own) v d) ∧ I ∈ own ∧ ∀ j h, S j h → ItObj h I
theorem Src.keep {A : Around} {I : Addr} {own own' : List Addr} {h h' : Heap} {ds : List V} (x : Src c A I own h ds) (st : (hideAll h own).StaysIn (hideAll h' own')) (hI : I ∈ own') (k : ∀ o, h.get? I = some o → h'.get? I = some o) : Src c A I own' h' ds := by
  obtain ⟨fp, P, S, i, N, W, s, hn, hf, hp, hi, hl⟩ := x
  refine ⟨fp, P, S, i, N, W, W.frame _ _ _ s fun b hb o e => ?_, hn, fun b hb => (hf b hb).imp id fun ⟨o, e⟩ => ⟨o, st _ _ e⟩, fun j v q => let ⟨d, q1, q2⟩ := hp j v q; ⟨d, q1, q2.mono st⟩, hI, hl⟩
  rcases hf b hb with rfl | ⟨o', e'⟩
  · exact k o e
  · have e1 := of_hideAll own e'
    rw [e] at e1; cases e1
    exact of_hideAll own' (st _ _ e')
theorem Src.it {A : Around} {I : Addr} {own : List Addr} {h : Heap} {ds : List V} (x : Src c A I own h ds) : ItObj h I := by
  obtain ⟨fp, P, S, i, N, W, s, hn, hf, hp, hi, hl⟩ := x
  exact hl _ _ s
theorem Src.mem {A : Around} {I : Addr} {own : List Addr} {h : Heap} {ds : List V} (x : Src c A I own h ds) : I ∈ own := by
  obtain ⟨fp, P, S, i, N, W, s, hn, hf, hp, hi, hl⟩ := x
  exact hi
theorem Src.self {A : Around} {I : Addr} {own : List Addr} {s : Shared} {ds : List V} (x : Src c A I own s.heap ds) {Q E : Value → Shared → Prop} (h : Q (.ref I) s) : wpAny c.M A (pyIter (.ref I)) Q E s := by
  obtain ⟨fp, P, S, i, N, W, st, hn, hf, hp, hi, hl⟩ := x
  exact W.self i s Q E st h
theorem Src.next {A : Around} {I : Addr} {own : List Addr} {s : Shared} {d : V} {ds : List V} (x : Src c A I own s.heap (d :: ds)) {Q : Option Value → Shared → Prop} {E : Value → Shared → Prop}
    (h : ∀ v h' tk, Rp c.w (hideAll h' own) v d → Kp [I] s.heap h' → Src c A I own h' ds → Q (some v) { s with heap := h', toks := tk }) : wpAny c.M A (pyNext (.ref I)) Q E s := by
  obtain ⟨fp, P, S, i, N, W, st, hn, hf, hp, hi, hl⟩ := x
  rw [List.length_cons] at hn
  refine W.item i s Q E (by omega) st fun v h' tk hv st' hk => ?_
  have kp : Kp [I] s.heap h' := ⟨fun b o e nb => hk b o nb e⟩
  have hs : (hideAll s.heap own).StaysIn (hideAll h' own) := hide_stays kp (fun z q => by simp at q; subst q; exact hi) fun _ q => .inl q
  obtain ⟨d', q1, q2⟩ := hp 0 v hv
  rw [List.getElem?_cons_zero] at q1; cases q1
  refine h v h' tk (q2.mono hs) kp ⟨fp, P, S, i + 1, N, W, st', by omega, fun b hb => (hf b hb).imp id fun ⟨o, e⟩ => ⟨o, hs _ _ e⟩, fun j v q => ?_, hi, hl⟩
  have e : i + 1 + j = i + (j + 1) := by omega
  obtain ⟨d, g1, g2⟩ := hp (j + 1) v (e ▸ q)
  exact ⟨d, by simpa using g1, g2.mono hs⟩
theorem Src.done {A : Around} {I : Addr} {own : List Addr} {s : Shared} (x : Src c A I own s.heap []) {Q : Option Value → Shared → Prop} {E : Value → Shared → Prop}
    (h : ∀ h' tk, Kp [I] s.heap h' → Q none { s with heap := h', toks := tk }) : wpAny c.M A (pyNext (.ref I)) Q E s := by
  obtain ⟨fp, P, S, i, N, W, st, hn, hf, hp, hi, hl⟩ := x
  have e : i = N := by simpa using hn
  subst e
  exact W.done s Q E st fun h' tk hk => h h' tk ⟨fun b o e nb => hk b o nb e⟩

/-- an expression that is gone through -/
structure IE (c : Cx) (env : Env) (n : Nat) (Γ : Gm) (σ : St) (iter : Expr) (Φ : List V → St → Prop) : Prop where
  run : ∀ (A : Around) (own : List Addr) (s : Shared) (Q E : Value → Shared → Prop), Ar n A → Bd c env own Γ σ s.heap →
    (∀ I ds (σ' : St) own' h' tk', Φ ds σ' → Ow c own' σ' h' → Stp (adr σ) own s.heap (adr σ') own' h' → (I ∈ adr σ ∨ s.heap.get? I = none) → I ∉ adr σ' → I ∉ env.locals :: env.cells.map (·.2) → Src c A I own' h' ds → Q (.ref I) { s with heap := h', toks := tk' }) →
    wpAny c.M A (eval iter env) (fun x s₁ => wpAny c.M A (pyIter x) Q E s₁) E s
/-- a datum that is gone through -/
structure IV (c : Cx) (n : Nat) (d : V) (σ : St) (ds : List V) : Prop where
  run : ∀ (A : Around) (own : List Addr) (s : Shared) (v : Value) (Q E : Value → Shared → Prop), Ar n A → Ow c own σ s.heap → Rp c.w (hideAll s.heap own) v d →
    (∀ I h' tk', s.heap.get? I = none → Kp [] s.heap h' → Src c A I (I :: own) h' ds → Q (.ref I) { s with heap := h', toks := tk' }) → wpAny c.M A (pyIter v) Q E s
theorem ie_of {iter : Expr} {Φ : List V → St → Prop} (h : EV c env n Γ σ (eval iter env) fun d σ₁ => ∃ ds, IV c n d σ₁ ds ∧ Φ ds σ₁) : IE c env n Γ σ iter Φ := by
  refine ⟨fun A own s Q E ar bd k => ?_⟩
  refine h.run A own s _ E ar bd fun v d σ₁ own₁ h₁ tk₁ p ow₁ st₁ r₁ => ?_
  obtain ⟨ds, iv, p⟩ := p
  refine iv.run A own₁ _ v Q E ar ow₁ r₁ fun I h' tk' hn kp src => ?_
  obtain ⟨o, T, ho, _⟩ := src.it
  obtain ⟨ow2, st2⟩ := ow₁.hid kp hn ⟨o, ho⟩
  have hna : I ∉ adr σ₁ := fun q => not_new (ow₁.old _ (ow₁.sub _ q)) hn
  refine k I ds σ₁ (I :: own₁) h' tk' p ow2 (st₁.trans st2 bd.ow.old) (st₁.kp.isNone hn) hna (fun q => ?_) src
  have bd₁ := bd.step st₁ ow₁
  cases q with
  | head => exact not_new (ow₁.old _ bd₁.loc.1) hn
  | tail _ q =>
    obtain ⟨p, hp, rfl⟩ := List.mem_map.mp q
    exact not_new (ow₁.old _ (bd₁.cel p hp).1) hn
theorem iv_list {ds : List V} : IV c n (.list ds) σ ds := by
  refine ⟨fun A own s v Q E ar ow r k => ?_⟩
  replace r := r.inv; obtain ⟨a, vs, m, rfl, e, r⟩ := r
  have e1 := of_hideAll own e
  refine wpAny_pyIter_list (isList_of e1) ?_
  have hlt := Heap.lt_size e1
  have kp := Kp.push [] s.heap { cls := .type "list_iterator", data := .fields #[.ref a, .int 0 0] }
  have hn : s.heap.get? s.heap.objs.size = none := new_ge (Nat.le_refl _)
  obtain ⟨ow2, st2⟩ := ow.hid (a := s.heap.objs.size) kp hn ⟨_, Heap.get?_push_size _ rfl⟩
  have hs := ow.stp st2
  refine k _ _ s.toks hn kp ⟨_, _, _, 0, vs.length, Walks.list ar.handled s.heap.objs.size a (Nat.ne_of_lt hlt) vs.toArray, ⟨⟨_, Heap.get?_push_size _ rfl, rfl, rfl⟩, (isList_of e1).push _⟩, by simp [r.length], fun b hb => ?_, fun j v q => ?_, .head _, fun j h q => ?_⟩
  · simp at hb
    rcases hb with rfl | rfl
    · exact .inl rfl
    · exact .inr ⟨_, hs _ _ e⟩
  · have q : vs[j]? = some v := by simpa using q
    have hj : j < ds.length := by rw [← r.length]; exact (List.getElem?_eq_some_iff.mp q).1
    obtain ⟨u, q1, q2⟩ := r.get (List.getElem?_eq_getElem hj)
    rw [q] at q1; cases q1
    exact ⟨_, List.getElem?_eq_getElem hj, q2.mono hs⟩
  · obtain ⟨o, q1, q2, q3⟩ := q.1
    exact ⟨o, _, q1, q2, by decide⟩
end
end Mine
end

section
open PySem PySem.W PyProof.Rows PySem.Calls PySem.Spec
set_option maxRecDepth 100000
namespace Mine

section
variable {c : Cx} {env : Env} {n : Nat} {Γ : Gm} {σ : St} {Φ : V → St → Prop} {Ψ : Fl → Gm → St → Prop}

theorem iv_tuple {ds : List V} : IV c n (.tup ds) σ ds := by
  refine ⟨fun A own s v Q E ar ow r k => ?_⟩
  replace r := r.inv; obtain ⟨a, vs, m, rfl, e, r⟩ := r
  have e1 := of_hideAll own e
  have hT : s.heap.IsTuple a vs.toArray := ⟨_, e1, rfl, _, rfl⟩
  refine wpAny_pyIter_tuple hT ?_
  have hlt := Heap.lt_size e1
  have kp := Kp.push [] s.heap { cls := .type "tuple_iterator", data := .fields #[.ref a, .int 0 0] }
  have hn : s.heap.get? s.heap.objs.size = none := new_ge (Nat.le_refl _)
  obtain ⟨ow2, st2⟩ := ow.hid (a := s.heap.objs.size) kp hn ⟨_, Heap.get?_push_size _ rfl⟩
  have hs := ow.stp st2
  refine k _ _ s.toks hn kp ⟨_, _, _, 0, vs.length, Walks.tuple ar.handled s.heap.objs.size a (Nat.ne_of_lt hlt) vs.toArray, ⟨⟨_, Heap.get?_push_size _ rfl, rfl, rfl⟩, ⟨_, Heap.get?_push_of_some _ e1, rfl, _, rfl⟩⟩, by simp [r.length], fun b hb => ?_, fun j v q => ?_, .head _, fun j h q => ?_⟩
  · simp at hb
    rcases hb with rfl | rfl
    · exact .inl rfl
    · exact .inr ⟨_, hs _ _ e⟩
  · have q : vs[j]? = some v := by simpa using q
    have hj : j < ds.length := by rw [← r.length]; exact (List.getElem?_eq_some_iff.mp q).1
    obtain ⟨u, q1, q2⟩ := r.get (List.getElem?_eq_getElem hj)
    rw [q] at q1; cases q1
    exact ⟨_, List.getElem?_eq_getElem hj, q2.mono hs⟩
  · obtain ⟨o, q1, q2, q3⟩ := q.1
    exact ⟨o, _, q1, q2, by decide⟩
/-- the keys of a dict -/
theorem iv_dict (k : Kd) {es : List (k.T × V)} : IV c n (.dict k es) σ (es.map fun p => V.key k p.1) := by
  refine ⟨fun A own s v Q E ar ow r kt => ?_⟩
  obtain ⟨a, ents, m, rfl, e0, e2, e3, e4⟩ := V.dict_inv r
  have e1 := of_hideAll own e0
  obtain ⟨kvs, ⟨o, es', ep, g1, g2⟩, kv⟩ := dict_of (w := c.w) e1 e2 e3
  have hat : s.heap.DictAt (k.knd c.w) a kvs ep := ⟨o, es', g1, g2⟩
  refine wpAny_pyIter_dict e4 hat ?_
  have hlt := Heap.lt_size e1
  have kp := Kp.push [] s.heap { cls := .type "dict_keyiterator", data := .fields #[.ref a, .int 0 0, .int kvs.length 0, .int ep 0] }
  have hn : s.heap.get? s.heap.objs.size = none := new_ge (Nat.le_refl _)
  obtain ⟨ow2, st2⟩ := ow.hid (a := s.heap.objs.size) kp hn ⟨_, Heap.get?_push_size _ rfl⟩
  have hs := ow.stp st2
  refine kt _ _ s.toks hn kp ⟨_, _, _, 0, kvs.length, Walks.dictKeys ar.handled s.heap.objs.size a (Nat.ne_of_lt hlt) kvs ep, ⟨⟨_, Heap.get?_push_size _ rfl, rfl, rfl⟩, hat.push _⟩, by simp [kv.length], fun b hb => ?_, fun j v q => ?_, .head _, fun j h q => ?_⟩
  · simp at hb
    rcases hb with rfl | rfl
    · exact .inl rfl
    · exact .inr ⟨_, hs _ _ e0⟩
  · obtain ⟨x, u, q1, q2⟩ := q
    rw [Nat.zero_add] at q1
    have h1 : (kvs.map (·.1))[j]? = some x := by rw [List.getElem?_map, q1]; rfl
    rw [kv.keys, List.getElem?_map] at h1
    cases hp : es[j]? with
    | none => rw [hp] at h1; cases h1
    | some p =>
      rw [hp] at h1
      have h1 : p.1 = x := by simpa using h1
      refine ⟨V.key k p.1, by rw [List.getElem?_map, hp]; rfl, ?_⟩
      rw [h1]
      cases k with
      | s => obtain ⟨t, rfl⟩ := Value.isStrOf_shape q2; exact .str _ _
      | i => obtain ⟨t, rfl⟩ := Value.isInt_shape q2; exact .int _ _
      | b => obtain ⟨t, rfl⟩ := isBytes_shape q2; exact .bytes _ _
  · obtain ⟨o, q1, q2, q3⟩ := q.1
    exact ⟨o, _, q1, q2, by decide⟩

/-- one step from a fresh place: how a range, a reversed list, come into being and are gone through -/
theorem ie_call {x : Str} {p pos : Pos} {T : String} {e : Expr} {rest : List Expr} {Φ : List V → St → Prop} (hf : nsIn (HpK c.w.params) mainGlobals x = some none) (hv : bootBuiltins x = some (.type T)) (hk : env.kindOf x = some .globalImplicit)
    (h : LV c env n Γ σ (spliced (backTo pos (starEach (e :: rest) env))) fun ds σ₁ => ∀ (A : Around) (own : List Addr) (s : Shared) (vs : List Value) (Q E : Value → Shared → Prop), Ar n A → Ow c own σ₁ s.heap → Rps c.w (hideAll s.heap own) vs ds →
      (∀ I ds' h' tk', Φ ds' σ₁ → s.heap.get? I = none → Kp [] s.heap h' → Src c A I (I :: own) h' ds' → Q (.ref I) { s with heap := h', toks := tk' }) → wpAny c.M A (call (.type T) vs) (fun x s₁ => wpAny c.M A (pyIter x) Q E s₁) E s)
    (hn : x ≠ "__name__" := by decide) (hd : (x == ("__debug__" : Str)) = false := by decide) (he : starEach (e :: rest) env = (false, eval e env) :: starEach rest env := by rfl) (hplain : (backTo pos (starEach rest env)).any (·.1) = false := by rfl) : IE c env n Γ σ (.Call (.Name x p) (e :: rest) [] pos) Φ := by
  refine ⟨fun A own s Q E ar bd k => ?_⟩
  refine wpAny_Call_NameR (bi_any bd hf hv hk hn hd (PyProof.Rows.callWith_type1 ?_ he hplain))
  refine h.run A own s _ E ar bd fun vs ds σ₁ own₁ h₁ tk₁ p₁ ow₁ st₁ r₁ => ?_
  refine p₁ A own₁ _ vs Q E ar ow₁ r₁ fun I ds' h' tk' hΦ hn kp src => ?_
  obtain ⟨o, T, ho, _⟩ := src.it
  obtain ⟨ow2, st2⟩ := ow₁.hid kp hn ⟨o, ho⟩
  have hna : I ∉ adr σ₁ := fun q => not_new (ow₁.old _ (ow₁.sub _ q)) hn
  refine k I ds' σ₁ (I :: own₁) h' tk' hΦ ow2 (st₁.trans st2 bd.ow.old) (st₁.kp.isNone hn) hna (fun q => ?_) src
  have bd₁ := bd.step st₁ ow₁
  cases q with
  | head => exact not_new (ow₁.old _ bd₁.loc.1) hn
  | tail _ q =>
    obtain ⟨p, hp, rfl⟩ := List.mem_map.mp q
    exact not_new (ow₁.old _ (bd₁.cel p hp).1) hn

noncomputable def rangeV (a st : Int) (m : Nat) : List V := (List.range m).map fun (j : Nat) => V.int (a + (j : Int) * st)
theorem src_range {A : Around} {own : List Addr} {h : Heap} {I : Addr} {a st : Int} {m : Nat} (hA : A.handled = none) (hI : I ∈ own) (hi : IsRangeIter h I a m st) : Src c A I own h (rangeV a st m) := by
  refine ⟨_, _, _, 0, m, (Walks.range hA I a st m).bound, by simpa using hi, by simp [rangeV], fun b hb => .inl (by simpa using hb), fun j v q => ?_, hI, fun j h q => ⟨_, _, q, rfl, by decide⟩⟩
  obtain ⟨q1, t, rfl⟩ := q
  rw [Nat.zero_add] at q1
  refine ⟨_, by rw [rangeV, List.getElem?_map, List.getElem?_range q1]; rfl, ?_⟩
  rw [Nat.zero_add]
  exact .int _ t
theorem rsize1 {m : Int} (h0 : 0 ≤ m) : Builtin.Range.rangeSize 0 m 1 = m := by
  unfold Builtin.Range.rangeSize
  split <;> split <;> omega
theorem ie_range1 {x : Str} {p pos : Pos} {e : Expr} {Φ : List V → St → Prop} (hf : nsIn (HpK c.w.params) mainGlobals x = some none) (hv : bootBuiltins x = some (.type "range")) (hk : env.kindOf x = some .globalImplicit)
    (h : EV c env n Γ σ (eval e env) fun d σ₁ => ∃ m : Nat, d = .int m ∧ m ≤ 10000 ∧ Φ (rangeV 0 1 m) σ₁)
    (hn : x ≠ "__name__" := by decide) (hd : (x == ("__debug__" : Str)) = false := by decide) (he : starEach [e] env = (false, eval e env) :: starEach [] env := by rfl) : IE c env n Γ σ (.Call (.Name x p) [e] [] pos) Φ := by
  refine ie_call hf hv hk (lv_cons (h.mono fun d σ₁ q => lv_nil ?_) he) hn hd he rfl
  obtain ⟨m, rfl, hm, hΦ⟩ := q
  intro A own s vs Q E ar ow r k
  replace r := r.inv; obtain ⟨_, _, rfl, r1, r2⟩ := r
  (first | obtain rfl := r2.inv | obtain ⟨_, rfl⟩ := r2.inv | cases r2)
  (first | obtain rfl := r1.inv | obtain ⟨_, rfl⟩ := r1.inv | cases r1)
  rename_i t
  refine call_range_1 ?_
  have hsz : Builtin.Range.rangeSize 0 (m : Int) 1 = m := rsize1 (by omega)
  refine wpAny_pyIter_range (a := 0) (b := m) (c := 1) (Heap.get?_push_size _ rfl) ?_ ?_
  · unfold Builtin.Range.small Builtin.Range.rangeFitsLong
    rw [hsz]
    simp
    omega
  · dsimp only
    rw [hsz]
    have kp : Kp [] s.heap ((s.heap.push { cls := .type "range", data := .fields #[.int 0 s.toks, .int m t, .int 1 (s.toks + 1)] }).push { cls := .type "range_iterator", data := .fields #[rawInt 0, rawInt m, rawInt 1] }) := (Kp.push [] _ _).trans (Kp.push [] _ _) fun _ q => nomatch q
    refine k _ _ _ _ hΦ (new_ge (by rw [Heap.size_push]; omega)) kp (src_range ar.handled (.head _) ?_)
    exact Heap.get?_push_size _ rfl
theorem ie_range3 {x : Str} {p pos : Pos} {e1 e2 e3 : Expr} {Φ : List V → St → Prop} (hf : nsIn (HpK c.w.params) mainGlobals x = some none) (hv : bootBuiltins x = some (.type "range")) (hk : env.kindOf x = some .globalImplicit)
    (h : LV c env n Γ σ (spliced (backTo pos (starEach [e1, e2, e3] env))) fun ds σ₁ => ∃ m : Nat, ds = [.int 0, .int (2 * m : Nat), .int 2] ∧ m ≤ 1000 ∧ Φ (rangeV 0 2 m) σ₁)
    (hn : x ≠ "__name__" := by decide) (hd : (x == ("__debug__" : Str)) = false := by decide) (he : starEach [e1, e2, e3] env = (false, eval e1 env) :: starEach [e2, e3] env := by rfl) (hplain : (backTo pos (starEach [e2, e3] env)).any (·.1) = false := by rfl) : IE c env n Γ σ (.Call (.Name x p) [e1, e2, e3] [] pos) Φ := by
  refine ie_call hf hv hk (h.mono fun ds σ₁ q => ?_) hn hd he hplain
  obtain ⟨m, rfl, hm, hΦ⟩ := q
  intro A own s vs Q E ar ow r k
  replace r := r.inv; obtain ⟨_, _, rfl, r1, r2⟩ := r
  replace r2 := r2.inv; obtain ⟨_, _, rfl, r2, r3⟩ := r2
  replace r3 := r3.inv; obtain ⟨_, _, rfl, r3, r4⟩ := r3
  (first | obtain rfl := r4.inv | obtain ⟨_, rfl⟩ := r4.inv | cases r4)
  (first | obtain rfl := r1.inv | obtain ⟨_, rfl⟩ := r1.inv | cases r1)
  (first | obtain rfl := r2.inv | obtain ⟨_, rfl⟩ := r2.inv | cases r2)
  (first | obtain rfl := r3.inv | obtain ⟨_, rfl⟩ := r3.inv | cases r3)
  rename_i t1 t2 t3
  refine call_range_3 (by decide) ?_ (.inl (PyProof.noPylong_small (by decide)))
  have hsz : Builtin.Range.rangeSize 0 ((2 * m : Nat) : Int) 2 = m := by
    unfold Builtin.Range.rangeSize
    split
    · split
      · have : (((2 * m : Nat) : Int) - 0 - 1) / 2 + 1 = m := by omega
        simpa using this
      · omega
    · omega
  refine wpAny_pyIter_range (a := 0) (b := (2 * m : Nat)) (c := 2) (Heap.get?_push_size _ rfl) ?_ ?_
  · unfold Builtin.Range.small Builtin.Range.rangeFitsLong
    rw [hsz]
    simp
    omega
  · dsimp only
    rw [hsz]
    have kp : Kp [] s.heap ((s.heap.push { cls := .type "range", data := .fields #[.int 0 t1, .int (2 * m : Nat) t2, .int 2 t3] }).push { cls := .type "range_iterator", data := .fields #[rawInt 0, rawInt m, rawInt 2] }) := (Kp.push [] _ _).trans (Kp.push [] _ _) fun _ q => nomatch q
    refine k _ _ _ _ hΦ (new_ge (by rw [Heap.size_push]; omega)) kp (src_range ar.handled (.head _) ?_)
    exact Heap.get?_push_size _ rfl
theorem ie_rev {x : Str} {p pos : Pos} {e : Expr} {Φ : List V → St → Prop} (hf : nsIn (HpK c.w.params) mainGlobals x = some none) (hv : bootBuiltins x = some (.type "reversed")) (hk : env.kindOf x = some .globalImplicit)
    (h : EV c env n Γ σ (eval e env) fun d σ₁ => ∃ ds, d = .list ds ∧ Φ ds.reverse σ₁)
    (hn : x ≠ "__name__" := by decide) (hd : (x == ("__debug__" : Str)) = false := by decide) (he : starEach [e] env = (false, eval e env) :: starEach [] env := by rfl) : IE c env n Γ σ (.Call (.Name x p) [e] [] pos) Φ := by
  refine ie_call hf hv hk (lv_cons (h.mono fun d σ₁ q => lv_nil ?_) he) hn hd he rfl
  obtain ⟨ds, rfl, hΦ⟩ := q
  intro A own s vs Q E ar ow r k
  replace r := r.inv; obtain ⟨_, _, rfl, r1, r2⟩ := r
  (first | obtain rfl := r2.inv | obtain ⟨_, rfl⟩ := r2.inv | cases r2)
  replace r1 := r1.inv; obtain ⟨a, us, m, rfl, e, r⟩ := r1
  have e1 := of_hideAll own e
  have hL := isList_of e1
  have hlt := Heap.lt_size e1
  refine call_reversed_list hL ?_
  have kp := Kp.push [] s.heap (revObj a ((us.toArray.size : Int) - 1))
  have hn : s.heap.get? s.heap.objs.size = none := new_ge (Nat.le_refl _)
  have hrev : (s.heap.push (revObj a ((us.toArray.size : Int) - 1))).IsRevIter s.heap.objs.size a ((us.toArray.size : Int) - 1) := ⟨_, Heap.get?_push_size _ rfl, rfl, rfl⟩
  refine wpAny_pyIter_revIter hrev ?_
  obtain ⟨ow2, st2⟩ := ow.hid (a := s.heap.objs.size) kp hn ⟨_, Heap.get?_push_size _ rfl⟩
  have hs := ow.stp st2
  refine k _ _ _ s.toks hΦ hn kp ⟨_, _, _, 0, us.length, (Walks.listRev ar.handled s.heap.objs.size a (Nat.ne_of_lt hlt) us.toArray).bound, ⟨Nat.zero_le _, by simpa using hrev, hL.push _⟩, by simp [r.length], fun b hb => ?_, fun j v q => ?_, .head _, fun j h q => ?_⟩
  · simp at hb
    rcases hb with rfl | rfl
    · exact .inl rfl
    · exact .inr ⟨_, hs _ _ e⟩
  · obtain ⟨q1, q⟩ := q
    simp only [List.size_toArray, Nat.zero_add, List.getElem?_toArray] at q q1
    have hj : us.length - 1 - j < ds.length := by rw [← r.length]; omega
    obtain ⟨u, g1, g2⟩ := r.get (List.getElem?_eq_getElem hj)
    rw [q] at g1; cases g1
    refine ⟨_, ?_, g2.mono hs⟩
    rw [List.getElem?_reverse (by rw [← r.length]; exact q1), ← r.length]
    exact List.getElem?_eq_getElem hj
  · obtain ⟨o, q1, q2, q3⟩ := q.2.1
    exact ⟨o, _, q1, q2, by decide⟩
end
end Mine
end

section
open PySem PySem.W PyProof.Rows PySem.Calls PySem.Spec
set_option maxRecDepth 100000
namespace Mine

section
variable {c : Cx} {env : Env} {n : Nat} {Γ : Gm} {σ : St} {Φ : V → St → Prop} {Ψ : Fl → Gm → St → Prop}

/-! stores into targets -/
structure AV (c : Cx) (env : Env) (n : Nat) (Γ : Gm) (σ : St) (t : Value → Sem Unit) (d : V) (Γ' : Gm) : Prop where
  run : ∀ (A : Around) (own : List Addr) (s : Shared) (v : Value) (Q : Unit → Shared → Prop) (E : Value → Shared → Prop), Ar n A → Bd c env own Γ σ s.heap → Rp c.w (hideAll s.heap own) v d →
    (∀ own' h' tk', Bd c env own' Γ' σ h' → Stp (frA env ++ adr σ) own s.heap (frA env ++ adr σ) own' h' → Q () { s with heap := h', toks := tk' }) → wpAny c.M A (t v) Q E s
theorem Bd.xsub {own : List Addr} {h : Heap} (bd : Bd c env own Γ σ h) : ∀ z ∈ frA env ++ adr σ, z ∈ own := fun z q => by
  rcases List.mem_append.mp q with q | q
  · cases q with
    | head => exact bd.loc.1
    | tail _ q =>
      obtain ⟨p, hp, rfl⟩ := List.mem_map.mp q
      exact (bd.cel p (List.mem_filter.mp hp).1).1
  · exact bd.ow.sub z q
theorem av_name {x : Str} {p : Pos} {d : V} (hx : storeOk env x = true) : AV c env n Γ σ (assign (.Name x p) env) d ((x, d) :: Γ) := by
  refine ⟨fun A own s v Q E ar bd r k => ?_⟩
  exact wpAny_assign_Name (bd.store rfl r hx fun h' tk' bd' st' => k own h' tk' bd' st')
/-- names in a row -/
inductive AN (c : Cx) (env : Env) (n : Nat) (σ : St) : Gm → List (Value → Sem Unit) → List V → Gm → Prop
  | nil {Γ : Gm} : AN c env n σ Γ [] [] Γ
  | cons {Γ Γ₁ Γ₂ : Gm} {t : Value → Sem Unit} {ts : List (Value → Sem Unit)} {d : V} {ds : List V} : AV c env n Γ σ t d Γ₁ → AN c env n σ Γ₁ ts ds Γ₂ → AN c env n σ Γ (t :: ts) (d :: ds) Γ₂
theorem AN.run {A : Around} (ar : Ar n A) {Q : Unit → Shared → Prop} {E : Value → Shared → Prop} {Γ Γ' : Gm} {ts : List (Value → Sem Unit)} {ds : List V} (x : AN c env n σ Γ ts ds Γ') {vs : List Value} {own : List Addr} {s : Shared} (bd : Bd c env own Γ σ s.heap) (r : Rps c.w (hideAll s.heap own) vs ds)
    (k : ∀ own' h' tk', Bd c env own' Γ' σ h' → Stp (frA env ++ adr σ) own s.heap (frA env ++ adr σ) own' h' → Q () { s with heap := h', toks := tk' }) : wpAny c.M A (assignInOrder ts vs) Q E s := by
  induction x generalizing vs own s with
  | nil =>
    obtain rfl := r.inv
    exact assignInOrder_nil (k own s.heap s.toks bd (.refl _ _ _))
  | cons a an ih =>
    replace r := r.inv; obtain ⟨_, _, rfl, r1, r2⟩ := r
    refine assignInOrder_cons (a.run A own s _ _ E ar bd r1 fun own₁ h₁ tk₁ bd₁ st₁ => ?_)
    exact ih bd₁ (r2.mono (st₁.stays bd.xsub)) fun own₂ h₂ tk₂ bd₂ st₂ => k own₂ h₂ tk₂ bd₂ (st₁.trans st₂ bd.ow.old)
theorem av_tuple {elts : List Expr} {x1 : Nat} {pos : Pos} {ds : List V} {Γ' : Gm} (hn : (assignEach elts env).length = ds.length) (hstar : (assignEach elts env).findIdx? (·.1) = none) (h : AN c env n σ Γ ((assignEach elts env).map (·.2)) ds Γ') : AV c env n Γ σ (assign (.Tuple elts x1 pos) env) (.tup ds) Γ' := by
  refine ⟨fun A own s v Q E ar bd r k => ?_⟩
  obtain ⟨a, vs, m, rfl, e1, r1⟩ := tup_inv r
  have hlen := r1.length
  refine wpAny_assign_Tuple ar.handled (items := vs.toArray) ⟨_, e1, rfl, _, rfl⟩ (by simp [hlen, hn]) hstar fun h' he => ?_
  have kp : Kp [] s.heap h' := ⟨fun b o e _ => he b o (fun q => not_new ⟨o, e⟩ (new_ge (Nat.le_of_eq q.symm))) e⟩
  have ow' := bd.ow.quiet kp
  have st : Stp (adr σ) own s.heap (adr σ) own h' := .quiet kp
  exact h.run ar (s := { s with heap := h' }) (bd.step st ow') (r1.mono (bd.ow.stp st)) fun own₂ h₂ tk₂ bd₂ st₂ => k own₂ h₂ tk₂ bd₂ (st.more.trans st₂ bd.ow.old)
theorem x_assignT {elts : List Expr} {k : Nat} {tpos pos : Pos} {e : Expr} (h : EV c env n Γ σ (eval e env) fun d σ₁ => ∃ Γ', AV c env n Γ σ₁ (assign (.Tuple elts k tpos) env) d Γ' ∧ Ψ .next Γ' σ₁)
    (hs : swapsWithSole [.Tuple elts k tpos] e pos.line env = pure false := by rfl) (hw : swappedStores [.Tuple elts k tpos] e env = pure none := by rfl) : XV c env n Γ σ (exec (.Assign [.Tuple elts k tpos] e pos) env) Ψ := by
  refine ⟨fun A own s Q E ar bd kt => ?_⟩
  refine Assign_Tuple (h.run A own s _ E ar bd fun v d σ₁ own₁ h₁ tk₁ p ow₁ st₁ r₁ => ?_) hs hw
  obtain ⟨Γ', av, p⟩ := p
  exact av.run A own₁ _ v _ E ar (bd.step st₁ ow₁) r₁ fun own₂ h₂ tk₂ bd₂ st₂ => kt _ .next Γ' σ₁ own₂ h₂ tk₂ p bd₂ (st₁.more.trans st₂ bd.ow.old) .next

/-! for -/
theorem leave {own : List Addr} {h h' : Heap} {I : Addr} (bd : Bd c env own Γ σ h) (hI : I ∈ own) (hna : I ∉ adr σ) (hnl : I ∉ env.locals :: env.cells.map (·.2)) (k : Kp [I] h h') :
    Bd c env (own.filter (· != I)) Γ σ h' ∧ Stp (I :: (frA env ++ adr σ)) own h (frA env ++ adr σ) (own.filter (· != I)) h' ∧ (hideAll h own).StaysIn (hideAll h' (own.filter (· != I))) := by
  have hx : ∀ z ∈ [I], z ∈ own ∧ z ∉ adr σ ∧ z ≠ env.locals ∧ ∀ p ∈ env.cells, p.2 ≠ z := fun z q => by
    simp only [List.mem_singleton] at q
    subst q
    exact ⟨hI, hna, fun e => hnl (e ▸ .head _), fun p hp e => hnl (e ▸ .tail _ (List.mem_map_of_mem hp))⟩
  have hs : ∀ z ∈ own.filter (· != I), (z ∈ own ∨ h.get? z = none) ∧ ∃ ob, h'.get? z = some ob := fun z q => by
    obtain ⟨q1, q2⟩ := List.mem_filter.mp q
    obtain ⟨o, e⟩ := bd.ow.old z q1
    exact ⟨.inl q1, o, k.keep _ _ e (by simpa using q2)⟩
  have hk : ∀ z ∈ own, z ∈ own.filter (· != I) ∨ z ∈ [I] := fun z q => by
    by_cases e : z = I
    · exact .inr (by simp [e])
    · exact .inl (List.mem_filter.mpr ⟨q, by simpa using e⟩)
  refine ⟨bd.gen k hx hs hk, ⟨k.more fun z q => ?_, fun z q => (hk z q).imp id fun q => ?_, fun z q => .inl (List.mem_filter.mp q).1, fun z q => .inl (.tail _ q)⟩, (bd.ow.gen k (fun z q => ⟨(hx z q).1, (hx z q).2.1⟩) hs hk).2⟩
  · simp at q; subst q; exact .head _
  · simp at q; subst q; exact .head _
/-- the iterator has moved on -/
theorem moved {A : Around} {own : List Addr} {h h' : Heap} {I : Addr} {ds : List V} (bd : Bd c env own Γ σ h) (hna : I ∉ adr σ) (hnl : I ∉ env.locals :: env.cells.map (·.2)) (k : Kp [I] h h') (src : Src c A I own h' ds) :
    Bd c env own Γ σ h' ∧ Stp (I :: (frA env ++ adr σ)) own h (I :: (frA env ++ adr σ)) own h' := by
  have hx : ∀ z ∈ [I], z ∈ own ∧ z ∉ adr σ ∧ z ≠ env.locals ∧ ∀ p ∈ env.cells, p.2 ≠ z := fun z q => by
    simp only [List.mem_singleton] at q
    subst q
    exact ⟨src.mem, hna, fun e => hnl (e ▸ .head _), fun p hp e => hnl (e ▸ .tail _ (List.mem_map_of_mem hp))⟩
  refine ⟨bd.gen k hx (fun z q => ⟨.inl q, ?_⟩) fun z q => .inl q, ⟨k.more fun z q => ?_, fun z q => .inl q, fun z q => .inl q, fun z q => .inl q⟩⟩
  · by_cases e : z = I
    · obtain ⟨o, T, ho, _⟩ := src.it
      exact ⟨o, e ▸ ho⟩
    · obtain ⟨o, e'⟩ := bd.ow.old z q
      exact ⟨o, k.keep _ _ e' (by simpa using e)⟩
  · simp at q; subst q; exact .head _
theorem Stp.front {x own x' own' : List Addr} {h h' : Heap} {I : Addr} (a : Stp x own h x' own' h') : Stp (I :: x) own h (I :: x') own' h' where
  kp := a.kp.more fun _ q => .tail _ q
  sub := fun z q => (a.sub z q).imp id fun q => .tail _ q
  new := fun z q => (a.new z q).imp id fun q => q.imp (.tail _) id
  xnew := fun z q => by
    cases q with
    | head => exact .inl (.head _)
    | tail _ q => exact (a.xnew z q).imp (.tail _) id
theorem frA_sub {I : Addr} (hnl : I ∉ env.locals :: env.cells.map (·.2)) (hna : I ∉ adr σ) : I ∉ frA env ++ adr σ := fun q => by
  rcases List.mem_append.mp q with q | q
  · cases q with
    | head => exact hnl (.head _)
    | tail _ q =>
      obtain ⟨p, hp, e⟩ := List.mem_map.mp q
      exact hnl (.tail _ (List.mem_map.mpr ⟨p, (List.mem_filter.mp hp).1, e⟩))
  · exact hna q
/-- the source behind a step of the frame -/
theorem Src.step {A : Around} {I : Addr} {own own' : List Addr} {h h' : Heap} {ds : List V} {Γ' : Gm} {σ' : St} (x : Src c A I own h ds) (bd : Bd c env own Γ σ h) (st : Stp (frA env ++ adr σ) own h (frA env ++ adr σ') own' h') (hna : I ∉ adr σ) (hnl : I ∉ env.locals :: env.cells.map (·.2)) : Src c A I own' h' ds ∧ I ∉ adr σ' := by
  have hf := frA_sub (env := env) hnl hna
  obtain ⟨o, T, ho, _⟩ := x.it
  refine ⟨x.keep (st.stays bd.xsub) ((st.sub _ x.mem).elim id fun q => absurd q hf) fun o e => st.kp.keep _ _ e hf, fun q => ?_⟩
  rcases st.xnew _ (List.mem_append_right _ q) with w | w
  · exact hf w
  · exact not_new ⟨o, ho⟩ w

/-- what the body of a for must leave -/
noncomputable abbrev ForP (J : List V → Gm → St → Prop) (Ψ : Fl → Gm → St → Prop) (r : List V) (f : Fl) (Γ₂ : Gm) (σ₂ : St) : Prop := match f with
  | .next => J r Γ₂ σ₂
  | .cont => J r Γ₂ σ₂
  | .brk => Ψ .next Γ₂ σ₂
  | .ret v => Ψ (.ret v) Γ₂ σ₂
theorem x_for {target iter : Expr} {body : List Stmt} {pos : Pos} (h : IE c env n Γ σ iter fun ds σ₁ => ∃ J : List V → Gm → St → Prop, J ds Γ σ₁ ∧
      (∀ d r Γ' σ', J (d :: r) Γ' σ' → ∃ Γ₁, AV c env n Γ' σ' (assign target env) d Γ₁ ∧ XV c env n Γ₁ σ' (execs body env) (ForP J Ψ r)) ∧ ∀ Γ' σ', J [] Γ' σ' → Ψ .next Γ' σ')
    (hs : ∀ x, foldedSetIterable iter env x = pure x := by intro _; rfl) : XV c env n Γ σ (exec (.For target iter body [] pos) env) Ψ := by
  refine ⟨fun A own s Q E ar bd k => ?_⟩
  refine wpAny_For (h.run A own s _ E ar bd fun I ds σ₁ own₁ h₁ tk₁ p ow₁ st₁ hIs hna hnl src => ?_) hs
  obtain ⟨J, j0, hstep, hend⟩ := p
  refine codeAny_forLoop_any (fun m s' => ∃ ds' Γ' σ' own' h' tk', s' = { s with heap := h', toks := tk' } ∧ m = ds'.length ∧ J ds' Γ' σ' ∧ Bd c env own' Γ' σ' h' ∧ Stp (frA env ++ adr σ) own s.heap (I :: (frA env ++ adr σ')) own' h' ∧ I ∉ adr σ' ∧ Src c A I own' h' ds')
    ?_ ds.length ⟨ds, Γ, σ₁, own₁, h₁, tk₁, rfl, rfl, j0, bd.step st₁ ow₁, ?_, hna, src⟩
  · intro m s' q₀; refine goalG fun G kG => ?_; obtain ⟨ds', Γ', σ', own', h', tk', rfl, rfl, j, bd', st', hna', src'⟩ := q₀; refine kG ?_; clear kG
    cases ds' with
    | nil =>
      refine src'.done fun h₂ tk₂ k₂ => ?_
      obtain ⟨b1, b2, b3⟩ := leave bd' src'.mem hna' hnl k₂
      exact wpAny_execs_nil (k .next .next Γ' σ' _ h₂ tk₂ (hend _ _ j) b1 (st'.trans b2 bd.ow.old) .next)
    | cons d r =>
      refine src'.next fun v h₂ tk₂ rv k₂ src₂ => ?_
      obtain ⟨bd₂, st₂⟩ := moved bd' hna' hnl k₂ src₂
      refine letGo_ src₂.it ?_
      obtain ⟨Γ₁, av, xv⟩ := hstep d r Γ' σ' j
      refine av.run A own' _ v _ _ ar bd₂ rv fun own₃ h₃ tk₃ bd₃ st₃ => ?_
      obtain ⟨src₃, hna₃⟩ := src₂.step (Γ' := Γ₁) bd₂ st₃ hna' hnl
      refine xv.run A own₃ _ _ _ ar bd₃ fun f fl Γ₄ σ₄ own₄ h₄ tk₄ p₄ bd₄ st₄ rf => ?_
      obtain ⟨src₄, hna₄⟩ := src₃.step (Γ' := Γ₄) bd₃ st₄ hna₃ hnl
      have tot := ((st'.trans st₂ bd.ow.old).trans st₃.front bd.ow.old).trans st₄.front bd.ow.old
      cases rf with
      | next => exact ⟨r.length, by simp, r, Γ₄, σ₄, own₄, h₄, tk₄, rfl, rfl, p₄, bd₄, tot, hna₄, src₄⟩
      | cont => exact ⟨r.length, by simp, r, Γ₄, σ₄, own₄, h₄, tk₄, rfl, rfl, p₄, bd₄, tot, hna₄, src₄⟩
      | brk =>
        obtain ⟨b1, b2, b3⟩ := leave bd₄ src₄.mem hna₄ hnl (Kp.refl [I] h₄)
        exact k .next .next Γ₄ σ₄ _ h₄ tk₄ p₄ b1 (tot.trans b2 bd.ow.old) .next
      | ret rr =>
        obtain ⟨b1, b2, b3⟩ := leave bd₄ src₄.mem hna₄ hnl (Kp.refl [I] h₄)
        exact k _ _ Γ₄ σ₄ _ h₄ tk₄ p₄ b1 (tot.trans b2 bd.ow.old) (.ret (rr.mono b3))
  · refine ⟨st₁.more.kp, st₁.more.sub, st₁.more.new, fun z q => ?_⟩
    cases q with
    | head => exact hIs.imp (List.mem_append_right _) id
    | tail _ q => exact st₁.more.xnew z q
/-! while -/
theorem x_while {test : Expr} {body : List Stmt} {pos : Pos} (J : Nat → Gm → St → Prop) (m : Nat) (j0 : J m Γ σ)
    (step : ∀ m Γ' σ', J m Γ' σ' → TV c env n Γ' σ' (isTrue test env (eval test env)) fun b σ₂ => if b then XV c env n Γ' σ₂ (execs body env) fun f Γ₃ σ₃ => match f with
        | .next => ∃ m', m' < m ∧ J m' Γ₃ σ₃
        | .cont => ∃ m', m' < m ∧ J m' Γ₃ σ₃
        | .brk => Ψ .next Γ₃ σ₃
        | .ret v => Ψ (.ret v) Γ₃ σ₃
      else Ψ .next Γ' σ₂) : XV c env n Γ σ (exec (.While test body [] pos) env) Ψ := by
  refine ⟨fun A own s Q E ar bd k => ?_⟩
  refine wpAny_While ?_
  refine codeAny_whileLoop (fun m s' => ∃ Γ' σ' own' h' tk', s' = { s with heap := h', toks := tk' } ∧ J m Γ' σ' ∧ Bd c env own' Γ' σ' h' ∧ Stp (frA env ++ adr σ) own s.heap (frA env ++ adr σ') own' h') ?_ m ⟨Γ, σ, own, s.heap, s.toks, rfl, j0, bd, .refl _ _ _⟩
  intro m s' q₀; refine goalG fun G kG => ?_; obtain ⟨Γ', σ', own', h', tk', rfl, j, bd', st'⟩ := q₀; refine kG ?_; clear kG
  refine (step m Γ' σ' j).run A own' _ _ _ ar bd' fun b σ₂ own₂ h₂ tk₂ p₂ ow₂ st₂ => ?_
  have bd₂ := bd'.step st₂ ow₂
  have tot := st'.trans st₂.more bd.ow.old
  cases b with
  | true =>
    rw [if_pos rfl]
    rw [if_pos rfl] at p₂
    refine p₂.run A own₂ _ _ _ ar bd₂ fun f fl Γ₃ σ₃ own₃ h₃ tk₃ p₃ bd₃ st₃ rf => ?_
    have tot := tot.trans st₃ bd.ow.old
    cases rf with
    | next => obtain ⟨m', hm, j'⟩ := p₃; exact ⟨m', hm, Γ₃, σ₃, own₃, h₃, tk₃, rfl, j', bd₃, tot⟩
    | cont => obtain ⟨m', hm, j'⟩ := p₃; exact ⟨m', hm, Γ₃, σ₃, own₃, h₃, tk₃, rfl, j', bd₃, tot⟩
    | brk => exact k .next .next Γ₃ σ₃ own₃ h₃ tk₃ p₃ bd₃ tot .next
    | ret rr => exact k _ _ Γ₃ σ₃ own₃ h₃ tk₃ p₃ bd₃ tot (.ret rr)
  | false =>
    rw [if_neg Bool.false_ne_true]
    rw [if_neg Bool.false_ne_true] at p₂
    exact wpAny_execs_nil (k .next .next Γ' σ₂ own₂ h₂ tk₂ p₂ bd₂ tot .next)
end
end Mine
end

section
open PySem PySem.W PyProof.Rows PySem.Calls PySem.Spec
set_option maxRecDepth 100000
namespace Mine

section
variable {c : Cx} {env : Env} {n : Nat} {Γ : Gm} {σ : St} {Φ : V → St → Prop} {Ψ : Fl → Gm → St → Prop}

/-- what a comprehension takes from the frame around it -/
noncomputable def capOk (env : Env) (scope : Scope) (y : Str) : Bool :=
  (env.kindOf y == some .cell || env.kindOf y == some .free) && ((relabel scope env).names.lookup y == some .cell || (relabel scope env).names.lookup y == some .free)
noncomputable def Cap (env : Env) (scope : Scope) (cl : List (Str × Addr)) (Γ : Gm) : Gm → Prop
  | [] => True
  | (y, d) :: r => (Γ.lookup y = some d ∧ capOk env scope y = true ∧ ∃ a, cl.lookup y = some a ∧ env.cells.lookup y = some a) ∧ Cap env scope cl Γ r
theorem Cap.get {scope : Scope} {cl : List (Str × Addr)} {y : Str} {d : V} : ∀ {Γc : Gm}, Cap env scope cl Γ Γc → Γc.lookup y = some d → Γ.lookup y = some d ∧ capOk env scope y = true ∧ ∃ a, cl.lookup y = some a ∧ env.cells.lookup y = some a
  | [], _, e => by cases e
  | (z, e) :: r, h, q => by
    rw [List.lookup_cons] at q
    split at q
    · rename_i w; cases q; rw [beq_iff_eq.mp w]; exact h.1
    · exact Cap.get h.2 q

/-- the local store of a frame -/
theorem Bd.storeL {own : List Addr} {s : Shared} (bd : Bd c env own Γ σ s.heap) {x : Str} {v : Value} {d : V} {A : Around} {Q : Unit → Shared → Prop} {E : Value → Shared → Prop} (r : Rp c.w (hideAll s.heap own) v d) (hx : env.kindOf x = some .local)
    (k : ∀ h' tk', Bd c env own ((x, d) :: Γ) σ h' → Kp [env.locals] s.heap h' → Q () { s with heap := h', toks := tk' }) : wpAny c.M A (storeName env x v) Q E s := by
  obtain ⟨m, hns, hv⟩ := bd.ns
  refine wpAny_storeName_local hx hns (fun h' hn sb => ?_) (by rw [bd.ok.kind]; rfl)
  have kp : Kp [env.locals] s.heap h' := Kp.same sb (.head _)
  obtain ⟨o, st⟩ := bd.ow.hidSame bd.loc.1 bd.loc.2 kp (let ⟨o, _, _, e, _⟩ := hn; ⟨o, e⟩)
  refine k h' _ ⟨o, bd.ok, bd.loc, fun p hp => ?_, bd.nd, _, hn, fun y e q => ?_⟩ kp
  · obtain ⟨c1, c2, c3, v, ob, c4, c5⟩ := bd.cel p hp
    exact ⟨c1, c2, c3, v, ob, (sb.2 _ c3).trans c4, c5⟩
  · rw [List.lookup_cons] at q
    split at q
    · rename_i z; cases q
      have z : y = x := beq_iff_eq.mp z
      subst z
      exact .inl ⟨hx, v, by simp, r.mono st⟩
    · rename_i z
      have z : y ≠ x := fun w => by simp [w] at z
      rcases hv y e q with ⟨w, v', w1, w2⟩ | ⟨w, ad, v', w1, ⟨o, w2, w3⟩, w4⟩
      · exact .inl ⟨w, v', by simp [z, w1], w2.mono st⟩
      · exact .inr ⟨w, ad, v', w1, ⟨o, (sb.2 ad (bd.cel _ (lookup_mem w1)).2.2.1).trans w2, w3⟩, w4.mono st⟩

noncomputable def ifsGo (ifs : List Expr) (env : Env) : Sem Bool := forIn ifs true fun c r => if r = true then do let ok ← isTrue c env (eval c env); pure (ForInStep.yield ok) else pure (ForInStep.yield r)
theorem tl_nil {Φ : Bool → St → Prop} (p : Φ true σ) : TV c env n Γ σ (ifsGo [] env) Φ := by
  refine ⟨fun A own s Q E ar bd k => ?_⟩
  show wpAny c.M A (forIn [] true _) Q E s
  rw [List.forIn_nil]
  exact wpAny_pure (k true σ own s.heap s.toks p bd.ow (.refl _ _ _))
theorem tl_one {t : Expr} {Φ : Bool → St → Prop} (h : TV c env n Γ σ (isTrue t env (eval t env)) Φ) : TV c env n Γ σ (ifsGo [t] env) Φ := by
  refine ⟨fun A own s Q E ar bd k => ?_⟩
  show wpAny c.M A (forIn [t] true _) Q E s
  rw [List.forIn_cons]
  refine wpAny_bind ?_
  rw [if_pos rfl]
  refine wpAny_bind (h.run A own s _ E ar bd fun b σ' own' h' tk' p ow st => wpAny_pure ?_)
  show wpAny c.M A (forIn [] b _) Q E _
  rw [List.forIn_nil]
  exact wpAny_pure (k b σ' own' h' tk' p ow st)

/-- one round of a comprehension -/
noncomputable def CompJ (c : Cx) (env : Env) (n : Nat) (elt : Expr) (x : Str) (ifs : List Expr) (scope : Scope) (cl : List (Str × Addr)) (Γc : Gm) (J : List V → List V → St → Prop) : Prop :=
  (∀ ds acc σ', J ds acc σ' → acc.length ≤ 10000) ∧ ∀ d r acc σ' C, J (d :: r) acc σ' → TV c (compEnvC scope cl C env) n ((x, d) :: Γc) σ' (ifsGo ifs (compEnvC scope cl C env)) fun ok σ₂ =>
    if ok then EV c (compEnvC scope cl C env) n ((x, d) :: Γc) σ₂ (eval elt (compEnvC scope cl C env)) fun y σ₃ => J r (acc ++ [y]) σ₃ else J r acc σ₂

theorem stp_in {x own : List Addr} {h h' : Heap} {y : List Addr} (k : Kp y h h') (hy : ∀ z ∈ y, z ∈ x) : Stp x own h x own h' := ⟨k.more hy, fun _ q => .inl q, fun _ q => .inl q, fun _ q => .inl q⟩

inductive CompInv (c : Cx) (cenv : Env) (Γc : Gm) (J : List V → List V → St → Prop) (A : Around) (I D C : Addr) (σ : St) (own : List Addr) (s : Shared) (m : Nat) (s' : Shared) : Prop where
  | mk (ds' acc : List V) (σ' : St) (own' : List Addr) (h' : Heap) (tk' : Nat) (vs : List Value) (nn : Nat) (hs : s' = { s with heap := h', toks := tk' }) (hm : m = ds'.length) (j : J ds' acc σ') (bd : Bd c cenv own' Γc σ' h')
    (st : Stp (adr σ) own s.heap ([I, D, C] ++ adr σ') own' h') (hI : I ∉ adr σ') (hD : D ∉ adr σ') (oD : D ∈ own') (src : Src c A I own' h' ds') (hl : h'.get? D = some (listO vs nn)) (ra : Rps c.w (hideAll h' own') vs acc)
structure CompH (c : Cx) (env : Env) (A : Around) (own own₁ : List Addr) (σ σ₁ : St) (h h₁ h₂ h₃ : Heap) (I D C : Addr) (ds : List V) : Prop where
  ow : Ow c own₁ σ₁ h₁
  st : Stp (adr σ) own h (adr σ₁) own₁ h₁
  it : I ∈ adr σ ∨ h.get? I = none
  na : I ∉ adr σ₁
  nl : I ∉ env.locals :: env.cells.map (·.2)
  src : Src c A I own₁ h₁ ds
  nD : h₁.get? D = none
  k2 : Kp [] h₁ h₂
  l2 : h₂.get? D = some (listO [] 0)
  nC : h₂.get? C = none
  k3 : Kp [] h₂ h₃
  ns : h₃.Ns C fun _ => none
theorem comp_core {elt iter : Expr} {x : Str} {px : Pos} {ifs : List Expr} {scope : Scope} {cl : List (Str × Addr)} {pos : Pos} (hkind : scope.kind = .function) (hx : scope.names.lookup x = some .local)
    (hcl : ∀ p ∈ cl, env.cells.lookup p.1 = some p.2) (hcn : (cl.map (·.1)).Nodup) {Γc : Gm} (hcap : Cap env scope cl Γ Γc) (hxc : Γc.lookup x = none)
    {Φ : List V → St → Prop} {J : List V → List V → St → Prop} {ds : List V} {σ₁ : St} (j0 : J ds [] σ₁) (hJ : CompJ c env n elt x ifs scope cl Γc J) (hend : ∀ acc σ', J [] acc σ' → Φ acc σ')
    {A : Around} {own own₁ : List Addr} {s : Shared} (ar : Ar n A) (bd : Bd c env own Γ σ s.heap) {RR : Value → Addr → Result → Shared → Prop} {I D C : Addr} {h₁ h₂ h₃ : Heap} (X : CompH c env A own own₁ σ σ₁ s.heap h₁ h₂ h₃ I D C ds)
    (k : ∀ D C acc (σ' : St) own' h' tk' m, Φ acc σ' → Ow c own' σ' h' → Stp (adr σ) own s.heap (C :: adr σ') own' h' → C ∈ own' → C ∉ adr σ' → C ∉ env.locals :: env.cells.map (·.2) → h'.Ns C m → Rp c.w (hideAll h' own') (.ref D) (.list acc) → RR (.ref D) C (.ok .next) { s with heap := h', toks := tk' }) :
    Src c A I (C :: D :: own₁) h₃ ds ∧ ∀ tk, codeAny c.M A (.compLoop (.ListComp elt [⟨.Name x px, iter, ifs, 0⟩] scope pos) 0 (.ref I) (.ref D) (compEnvC scope cl C env)) (RR (.ref D) C) { s with heap := h₃, toks := tk } := by
  have hlen := hJ.1
  have hround := hJ.2
  have ow₁ := X.ow
  have st₁ := X.st
  have hIs := X.it
  have hna := X.na
  have hnl := X.nl
  have src := X.src
  have hDn := X.nD
  have kp₂ := X.k2
  have hD2 := X.l2
  have hCn := X.nC
  have kp₃ := X.k3
  have hns₃ := X.ns
  have bd₁ := bd.step st₁ ow₁
  have Y₂ := ow₁.hid kp₂ hDn ⟨_, hD2⟩
  have ow₂ := Y₂.1
  have st₂ := Y₂.2
  have Y₃ := ow₂.hid kp₃ hCn (let ⟨o, _, _, e, _⟩ := hns₃; ⟨o, e⟩)
  have ow₃ := Y₃.1
  have st₃ := Y₃.2
  have st₁₃ := (st₁.trans st₂ bd.ow.old).trans st₃ bd.ow.old
  have bd₃ := bd.step st₁₃ ow₃
  have hDna : D ∉ adr σ₁ := fun q => not_new (ow₁.old _ (ow₁.sub _ q)) hDn
  have hCna : C ∉ adr σ₁ := fun q => not_new (ow₂.old _ (ow₂.sub _ q)) hCn
  have hDC : D ≠ C := fun q => not_new ⟨_, hD2⟩ (q ▸ hCn)
  have hID : I ≠ D := fun q => not_new (ow₁.old _ src.mem) (q ▸ hDn)
  have hIC : I ≠ C := fun q => not_new (ow₂.old _ (.tail _ src.mem)) (q ▸ hCn)
  have bd₂ := bd.step (st₁.trans st₂ bd.ow.old) ow₂
  have hDl : D ∉ env.locals :: env.cells.map (·.2) := fun q => by
    cases q with
    | head => exact not_new (ow₁.old _ bd₁.loc.1) hDn
    | tail _ q => obtain ⟨p, hp, e⟩ := List.mem_map.mp q; exact not_new (ow₁.old _ (bd₁.cel p hp).1) (e ▸ hDn)
  have hCl : C ∉ env.locals :: env.cells.map (·.2) := fun q => by
    cases q with
    | head => exact not_new (ow₂.old _ bd₂.loc.1) hCn
    | tail _ q => obtain ⟨p, hp, e⟩ := List.mem_map.mp q; exact not_new (ow₂.old _ (bd₂.cel p hp).1) (e ▸ hCn)
  let cenv : Env := compEnvC scope cl C env
  have hsub : ∀ p ∈ cl, (p.1, p.2) ∈ env.cells := fun p hp => lookup_mem (hcl p hp)
  have inj : ∀ z, z ∉ env.locals :: env.cells.map (·.2) → z ≠ C → z ∉ cenv.locals :: cenv.cells.map (·.2) := fun z h1 h2 q => by
    cases q with
    | head => exact h2 rfl
    | tail _ q => obtain ⟨p, hp, e⟩ := List.mem_map.mp q; exact h1 (.tail _ (List.mem_map.mpr ⟨_, hsub p hp, e⟩))
  have bdc : Bd c cenv (C :: D :: own₁) Γc σ₁ h₃ := by
    refine ⟨ow₃, ⟨hkind, bd.ok.glob, bd.ok.bns⟩, ⟨.head _, hCna⟩, fun p hp => ?_, ?_, ?_⟩
    · obtain ⟨c1, c2, c3, c4⟩ := bd₃.cel _ (hsub p hp)
      exact ⟨c1, c2, fun e => hCl (.tail _ (List.mem_map.mpr ⟨_, hsub p hp, e⟩)), c4⟩
    · have : ∀ l : List (Str × Addr), (∀ p ∈ l, (p.1, p.2) ∈ env.cells) → (l.map (·.1)).Nodup → (l.map (·.2)).Nodup := by
        intro l
        induction l with
        | nil => intro _ _; exact List.nodup_nil
        | cons p l ih =>
          intro h1 h2
          rw [List.map_cons, List.nodup_cons] at h2 ⊢
          refine ⟨fun q => ?_, ih (fun p hp => h1 p (.tail _ hp)) h2.2⟩
          obtain ⟨p', hp', e⟩ := List.mem_map.mp q
          have := nodup_inj bd.nd (h1 p' (.tail _ hp')) (h1 p (.head _)) e
          have : p'.1 = p.1 := congrArg Prod.fst this
          exact h2.1 (List.mem_map.mpr ⟨p', hp', this⟩)
      exact this cl hsub hcn
    · refine ⟨_, hns₃, fun y d e => ?_⟩
      obtain ⟨g1, g2, a, g3, g4⟩ := hcap.get e
      obtain ⟨m, _, hv⟩ := bd₃.ns
      unfold capOk at g2
      rw [Bool.and_eq_true, Bool.or_eq_true, Bool.or_eq_true] at g2
      rcases hv y d g1 with ⟨w, _⟩ | ⟨w, ad, v, w1, w2, w3⟩
      · rcases g2.1 with q | q <;> (have q := beq_iff_eq.mp q; rw [w] at q; cases q)
      · rw [g4] at w1; cases w1
        exact .inr ⟨g2.2.imp (fun q => beq_iff_eq.mp q) fun q => beq_iff_eq.mp q, a, v, g3, w2, w3⟩
  have src₃ : Src c A I (C :: D :: own₁) h₃ ds := by
    refine (src.keep (ow₁.stp st₂) (.tail _ src.mem) fun o e => kp₂.keep _ _ e (fun q => nomatch q)).keep (ow₂.stp st₃) (.tail _ (.tail _ src.mem)) fun o e => kp₃.keep _ _ e (fun q => nomatch q)
  refine ⟨src₃, fun tk => ?_⟩
  refine codeAny_compLoop_tests (CompInv c (compEnvC scope cl C env) Γc J A I D C σ own s) ?_ ds.length ⟨ds, [], σ₁, _, h₃, _, [], 0, rfl, rfl, j0, bdc, ?_, hna, hDna, .tail _ (.head _), src₃, kp₃.keep _ _ hD2 (fun q => nomatch q), .nil⟩
  · intro m s' q₀; refine goalG fun G kG => ?_; obtain ⟨ds', acc, σ', own', h', tk', vs, nn, rfl, rfl, j, bd', st', hI', hD', hDo, src', hl, racc⟩ := q₀; refine kG ?_; clear kG
    have hIc := inj I hnl hIC
    have hDc := inj D hDl hDC
    have hCa : C ∉ adr σ' := bd'.loc.2
    cases ds' with
    | nil =>
      refine src'.done fun h₄ tk₄ k₄ => ?_
      have hx4 : ∀ z ∈ [I, D], z ∈ own' ∧ z ∉ adr σ' := fun z q => by
        simp only [List.mem_cons, List.mem_nil_iff, or_false] at q
        rcases q with rfl | rfl
        · exact ⟨src'.mem, hI'⟩
        · exact ⟨hDo, hD'⟩
      have k4 : Kp [I, D] h' h₄ := k₄.more fun z q => by simp at q; simp [q]
      have hk4 : ∀ z ∈ own', z ∈ own'.filter (fun z => z != I && z != D) ∨ z ∈ [I, D] := fun z q => by
        by_cases e1 : z = I
        · exact .inr (by simp [e1])
        · by_cases e2 : z = D
          · exact .inr (by simp [e2])
          · exact .inl (List.mem_filter.mpr ⟨q, by simp [e1, e2]⟩)
      obtain ⟨o4, s4⟩ := bd'.ow.gen (own' := own'.filter fun z => z != I && z != D) k4 hx4 (fun z q => by
        obtain ⟨q1, q2⟩ := List.mem_filter.mp q
        simp only [Bool.and_eq_true, bne_iff_ne, ne_eq] at q2
        obtain ⟨o, e⟩ := bd'.ow.old z q1
        exact ⟨.inl q1, o, k4.keep _ _ e (by simp [q2.1, q2.2])⟩) hk4
      obtain ⟨mm, hmm, _⟩ := bd'.ns
      have hCo : C ∈ own'.filter (fun z => z != I && z != D) := List.mem_filter.mpr ⟨bd'.loc.1, by simp [Ne.symm hIC, Ne.symm hDC]⟩
      refine k D C acc σ' _ h₄ tk₄ mm (hend _ _ j) o4 ?_ hCo hCa hCl ?_ ?_
      · refine st'.trans (x₂ := C :: adr σ') (h₂ := h₄) ⟨k4.more fun z q => ?_, fun z q => (hk4 z q).imp id fun q => List.mem_append_left _ ?_, fun z q => .inl (List.mem_filter.mp q).1, fun z q => .inl ?_⟩ bd.ow.old
        · simp at q; rcases q with rfl | rfl <;> simp
        · simp at q; rcases q with rfl | rfl <;> simp
        · cases q with
          | head => simp
          | tail _ q => exact List.mem_append_right _ q
      · obtain ⟨oL, es, ep, e, r⟩ := hmm
        exact ⟨oL, es, ep, k₄.keep _ _ e (by simp; exact Ne.symm hIC), r⟩
      · exact .list (hideAll_get _ (k₄.keep _ _ hl (by simp; exact Ne.symm hID)) fun q => by simp at q) (racc.mono s4)
    | cons d r =>
      refine src'.next fun v h₄ tk₄ rv k₄ src₄ => ?_
      have bd₄ := (moved bd' hI' hIc k₄ src₄).1
      have t₄ : Stp ([I, D, C] ++ adr σ') own' h' ([I, D, C] ++ adr σ') own' h₄ := stp_in k₄ fun z q => by simp at q; simp [q]
      have hl₄ := k₄.keep _ _ hl (by simp; exact Ne.symm hID)
      have racc₄ := racc.mono (t₄.stays fun z q => by
        rcases List.mem_append.mp q with q | q
        · simp at q
          rcases q with rfl | rfl | rfl
          · exact src'.mem
          · exact hDo
          · exact bd'.loc.1
        · exact bd'.ow.sub z q)
      refine wpAny_assign_Name (bd₄.storeL rv (lookup_relabel_local hx) fun h₅ tk₅ bd₅ k₅ => ?_)
      have k₅ : Kp [C] h₄ h₅ := k₅
      have t₅ : Stp ([I, D, C] ++ adr σ') own' h₄ ([I, D, C] ++ adr σ') own' h₅ := stp_in k₅ fun z q => by simp at q; simp [q]
      have s₅ : (hideAll h₄ own').StaysIn (hideAll h₅ own') := hide_stays k₅ (fun z q => by simp at q; subst q; exact bd₄.loc.1) fun _ q => .inl q
      have src₅ := src₄.keep s₅ src₄.mem fun o e => k₅.keep _ _ e (by simp; exact hIC)
      have hl₅ := k₅.keep _ _ hl₄ (by simp; exact hDC)
      have racc₅ := racc₄.mono s₅
      refine (hround d r acc σ' C j).run A own' _ _ _ ar bd₅ fun ok σ₆ own₆ h₆ tk₆ p₆ ow₆ st₆ => ?_
      have bd₆ := bd₅.step st₆ ow₆
      have t₆ : Stp ([I, D, C] ++ adr σ') own' h₅ ([I, D, C] ++ adr σ₆) own₆ h₆ := st₆.more
      have nI : I ∉ adr σ₆ := fun q => (st₆.xnew _ q).elim hI' fun w => by obtain ⟨o, T, e, _⟩ := src₅.it; exact not_new ⟨o, e⟩ w
      have nD : D ∉ adr σ₆ := fun q => (st₆.xnew _ q).elim hD' fun w => not_new ⟨_, hl₅⟩ w
      have s₆ := bd₅.ow.stp st₆
      have src₆ := src₅.keep s₆ ((st₆.sub _ src₅.mem).elim id fun q => absurd q hI') fun o e => st₆.kp.keep _ _ e hI'
      have hl₆ := st₆.kp.keep _ _ hl₅ hD'
      have racc₆ := racc₅.mono s₆
      have oD₆ : D ∈ own₆ := (st₆.sub _ hDo).elim id fun q => absurd q hD'
      have tot₆ := ((st'.trans t₄ bd.ow.old).trans t₅ bd.ow.old).trans t₆ bd.ow.old
      have weak : ∀ {own'' : List Addr} {σ'' : St} {h'' : Heap}, Bd c cenv own'' ((x, d) :: Γc) σ'' h'' → Bd c cenv own'' Γc σ'' h'' := fun b => ⟨b.ow, b.ok, b.loc, b.cel, b.nd, let ⟨m, g1, g2⟩ := b.ns; ⟨m, g1, fun y e q => g2 y e (by
        rw [List.lookup_cons]
        split
        · rename_i z
          rw [beq_iff_eq.mp z, hxc] at q; cases q
        · exact q)⟩⟩
      cases ok with
      | false =>
        rw [if_neg Bool.false_ne_true]
        rw [if_neg Bool.false_ne_true] at p₆
        exact ⟨r.length, by simp, r, acc, σ₆, own₆, h₆, tk₆, vs, nn, rfl, rfl, p₆, weak bd₆, tot₆, nI, nD, oD₆, src₆, hl₆, racc₆⟩
      | true =>
        rw [if_pos rfl]
        rw [if_pos rfl] at p₆
        refine p₆.run A own₆ _ _ _ ar bd₆ fun y e σ₇ own₇ h₇ tk₇ p₇ ow₇ st₇ ry => ?_
        have bd₇ := bd₆.step st₇ ow₇
        have t₇ : Stp ([I, D, C] ++ adr σ₆) own₆ h₆ ([I, D, C] ++ adr σ₇) own₇ h₇ := st₇.more
        have nI₇ : I ∉ adr σ₇ := fun q => (st₇.xnew _ q).elim nI fun w => by obtain ⟨o, T, e, _⟩ := src₆.it; exact not_new ⟨o, e⟩ w
        have nD₇ : D ∉ adr σ₇ := fun q => (st₇.xnew _ q).elim nD fun w => not_new ⟨_, hl₆⟩ w
        have s₇ := bd₆.ow.stp st₇
        have src₇ := src₆.keep s₇ ((st₇.sub _ src₆.mem).elim id fun q => absurd q nI) fun o e => st₇.kp.keep _ _ e nI
        have hl₇ := st₇.kp.keep _ _ hl₆ nD
        have racc₇ := racc₆.mono s₇
        have oD₇ : D ∈ own₇ := (st₇.sub _ oD₆).elim id fun q => absurd q nD
        have hlen' := racc.length
        have hz := hlen _ _ _ j
        refine call_meets PySem.F.slot_list_append ⟨_, hl₇, rfl⟩ PySem.F.entry_list_append (PySem.F.args_list_append_2 _ _) (list_append D vs.toArray nn _ (by rw [List.size_toArray, hlen', sizeLine_eq]; omega)) ⟨hl₇, ?_⟩
        generalize hh8 : h₇.update D (Obj.mapSeq fun x_1 => x_1.push y) = h₈
        have sb₈ : Heap.SameBut D h₇ h₈ := hh8 ▸ Heap.SameBut.update _ _ _
        have hl₈ : ∃ nn', h₈.get? D = some (listO (vs ++ [y]) nn') := ⟨_, by rw [← hh8]; simpa [listO] using IsL.update hl₇ (fun xs => xs.push y)⟩
        obtain ⟨nn', hl₈⟩ := hl₈
        have k₈ : Kp [D] h₇ h₈ := Kp.same sb₈ (.head _)
        have x₈ : ∀ z ∈ [D], z ∈ own₇ ∧ z ∉ adr σ₇ ∧ z ≠ cenv.locals ∧ ∀ p ∈ cenv.cells, p.2 ≠ z := fun z q => by
          simp only [List.mem_singleton] at q
          subst q
          exact ⟨oD₇, nD₇, fun e => hDc (e ▸ .head _), fun p hp e => hDc (e ▸ .tail _ (List.mem_map_of_mem hp))⟩
        have live₈ : ∀ z ∈ own₇, (z ∈ own₇ ∨ h₇.get? z = none) ∧ ∃ ob, h₈.get? z = some ob := fun z q => ⟨.inl q, same_live sb₈ ⟨_, hl₈⟩ (ow₇.old z q)⟩
        have bd₈ := bd₇.gen k₈ x₈ live₈ fun z q => .inl q
        have s₈ := (ow₇.gen k₈ (fun z q => ⟨(x₈ z q).1, (x₈ z q).2.1⟩) live₈ fun z q => .inl q).2
        have t₈ : Stp ([I, D, C] ++ adr σ₇) own₇ h₇ ([I, D, C] ++ adr σ₇) own₇ h₈ := stp_in k₈ fun z q => by simp at q; simp [q]
        have src₈ := src₇.keep s₈ src₇.mem fun o e => k₈.keep _ _ e (by simp; exact hID)
        refine ⟨r.length, by simp, r, acc ++ [e], σ₇, own₇, h₈, tk₇, vs ++ [y], nn', rfl, rfl, p₇, weak bd₈, (tot₆.trans t₇ bd.ow.old).trans t₈ bd.ow.old, nI₇, nD₇, oD₇, src₈, hl₈, (racc₇.mono s₈).append (.cons (ry.mono s₈) .nil)⟩
  · refine ⟨st₁₃.kp, st₁₃.sub, st₁₃.new, fun z q => ?_⟩
    rcases List.mem_append.mp q with q | q
    · simp at q
      rcases q with rfl | rfl | rfl
      · exact hIs
      · exact st₁.kp.isNone hDn
      · exact (st₁.trans st₂ bd.ow.old).kp.isNone hCn
    · exact st₁₃.xnew z q
theorem comp_loop {elt iter : Expr} {x : Str} {px : Pos} {ifs : List Expr} {scope : Scope} {cl : List (Str × Addr)} {pos : Pos} (hcell : ∀ y ∈ scope.names, y.2 ≠ .cell) (hkind : scope.kind = .function) (hx : scope.names.lookup x = some .local)
    (hcl : ∀ p ∈ cl, env.cells.lookup p.1 = some p.2) (hcn : (cl.map (·.1)).Nodup) {Γc : Gm} (hcap : Cap env scope cl Γ Γc) (hxc : Γc.lookup x = none)
    {Φ : List V → St → Prop} (h : IE c env n Γ σ iter fun ds σ₁ => ∃ J : List V → List V → St → Prop, J ds [] σ₁ ∧ CompJ c env n elt x ifs scope cl Γc J ∧ ∀ acc σ', J [] acc σ' → Φ acc σ')
    {A : Around} {own : List Addr} {s : Shared} {E : Value → Shared → Prop} (ar : Ar n A) (bd : Bd c env own Γ σ s.heap) {RR : Value → Addr → Result → Shared → Prop}
    (k : ∀ D C acc (σ' : St) own' h' tk' m, Φ acc σ' → Ow c own' σ' h' → Stp (adr σ) own s.heap (C :: adr σ') own' h' → C ∈ own' → C ∉ adr σ' → C ∉ env.locals :: env.cells.map (·.2) → h'.Ns C m → Rp c.w (hideAll h' own') (.ref D) (.list acc) → RR (.ref D) C (.ok .next) { s with heap := h', toks := tk' }) :
    wpAny c.M A (eval iter env) (fun xv s₁ => wpAny c.M A (pyIter xv) (fun it s₂ => wpAny c.M A (newList []) (fun acc s₃ => wpAny c.M A (newFunctionEnv scope env.globals cl [] env.qual none .none (some env)) (fun cenv s₄ =>
      codeAny c.M A (.compStart (.ListComp elt [⟨.Name x px, iter, ifs, 0⟩] scope pos) 0 it acc { cenv with scope := relabel scope env }) (RR acc cenv.locals) s₄) E s₃) E s₂) E s₁) E s := by
  refine h.run A own s _ E ar bd fun I ds σ₁ own₁ h₁ tk₁ p ow₁ st₁ hIs hna hnl src => ?_
  refine goalG fun G kG => ?_
  obtain ⟨J, j0, hJ, hend⟩ := p
  refine kG ?_; clear kG
  refine wpAny_newObj_type (wpAny_newFunctionEnv hcell (by intro y hy; simp at hy) (fun h₃ hns₃ hsb₃ => ?_) hkind)
  dsimp only at hns₃ hsb₃ ⊢
  have hX : CompH c env A own own₁ σ σ₁ s.heap h₁ (h₁.push { cls := .type "list", dict := none, data := .seq ([] : List Value).toArray }) h₃ I h₁.objs.size (h₁.push { cls := .type "list", dict := none, data := .seq ([] : List Value).toArray }).objs.size ds :=
    ⟨ow₁, st₁, hIs, hna, hnl, src, new_ge (Nat.le_refl _), Kp.push [] _ _, Heap.get?_push_size _ rfl, new_ge (Nat.le_refl _), ⟨fun b o e _ => (hsb₃.2 b fun q => not_new ⟨o, e⟩ (q ▸ new_ge (Nat.le_refl _))).trans (Heap.get?_push_of_some _ e)⟩, hns₃⟩
  have loop := comp_core (elt := elt) (iter := iter) (px := px) (ifs := ifs) (pos := pos) (RR := RR) hkind hx hcl hcn hcap hxc j0 hJ hend ar bd hX k
  exact codeAny_compStart_list (loop.2 _) (loop.1.self (loop.2 _))
end
end Mine
end

section
open PySem PySem.W PyProof.Rows PySem.Calls PySem.Spec
set_option maxRecDepth 100000
namespace Mine

/-! comprehensions -/
section
variable {c : Cx} {env : Env} {n : Nat} {Γ : Gm} {σ : St} {Φ : V → St → Prop} {Ψ : Fl → Gm → St → Prop}
theorem leaveO {own : List Addr} {h h' : Heap} {I : Addr} (o : Ow c own σ h) (hI : I ∈ own) (hna : I ∉ adr σ) (k : Kp [I] h h') :
    Ow c (own.filter (· != I)) σ h' ∧ Stp (I :: adr σ) own h (adr σ) (own.filter (· != I)) h' ∧ (hideAll h own).StaysIn (hideAll h' (own.filter (· != I))) := by
  have hx : ∀ z ∈ [I], z ∈ own ∧ z ∉ adr σ := fun z q => by
    simp only [List.mem_singleton] at q
    subst q
    exact ⟨hI, hna⟩
  have hs : ∀ z ∈ own.filter (· != I), (z ∈ own ∨ h.get? z = none) ∧ ∃ ob, h'.get? z = some ob := fun z q => by
    obtain ⟨q1, q2⟩ := List.mem_filter.mp q
    obtain ⟨o, e⟩ := o.old z q1
    exact ⟨.inl q1, o, k.keep _ _ e (by simpa using q2)⟩
  have hk : ∀ z ∈ own, z ∈ own.filter (· != I) ∨ z ∈ [I] := fun z q => by
    by_cases e : z = I
    · exact .inr (by simp [e])
    · exact .inl (List.mem_filter.mpr ⟨q, by simpa using e⟩)
  obtain ⟨g1, g2⟩ := o.gen k hx hs hk
  refine ⟨g1, ⟨k.more fun z q => ?_, fun z q => (hk z q).imp id fun q => ?_, fun z q => .inl (List.mem_filter.mp q).1, fun z q => .inl (.tail _ q)⟩, g2⟩
  · simp at q; subst q; exact .head _
  · simp at q; subst q; exact .head _
theorem ev_comp {elt iter : Expr} {x : Str} {px : Pos} {ifs : List Expr} {scope : Scope} {cl : List (Str × Addr)} {pos : Pos} (hclos : closureFor scope env = pure cl) (hcell : ∀ y ∈ scope.names, y.2 ≠ .cell) (hkind : scope.kind = .function)
    (hnames : ∀ y ∈ scope.names, y.2 = .local → scope.names.lookup y.1 = some .local) (hx : scope.names.lookup x = some .local)
    (hcl : ∀ p ∈ cl, env.cells.lookup p.1 = some p.2) (hcn : (cl.map (·.1)).Nodup) (Γc : Gm) (hcap : Cap env scope cl Γ Γc) (hxc : Γc.lookup x = none)
    (h : IE c env n Γ σ iter fun ds σ₁ => ∃ J : List V → List V → St → Prop, J ds [] σ₁ ∧ CompJ c env n elt x ifs scope cl Γc J ∧ ∀ acc σ', J [] acc σ' → Φ (.list acc) σ')
    (hs : ∀ x, foldedSetIterable iter env x = pure x := by intro _; rfl) : EV c env n Γ σ (eval (.ListComp elt [⟨.Name x px, iter, ifs, 0⟩] scope pos) env) Φ := by
  refine ⟨fun A own s Q E ar bd kt => ?_⟩
  rw [eval_ListComp]
  refine wpAny_comprehension_free (use := none) rfl hs hclos hkind hnames ?_
  refine comp_loop hcell hkind hx hcl hcn hcap hxc h ar bd (RR := fun acc C => compPost c.M A E none Q acc C) fun D C acc σ' own' h' tk' m p ow st hC hCa hCl hn r => ?_
  refine ⟨m, hn, fun h'' sb => ?_⟩
  obtain ⟨g1, g2, g3⟩ := leaveO ow hC hCa (Kp.same sb (.head _))
  exact kt _ _ σ' _ h'' tk' p g1 (st.trans g2 bd.ow.old) (r.mono g3)
theorem x_assignComp {elt iter : Expr} {x y : Str} {px py : Pos} {ifs : List Expr} {scope : Scope} {cl : List (Str × Addr)} {pos spos : Pos} (hsw : swapsWith (.ListComp elt [⟨.Name x px, iter, ifs, 0⟩] scope pos) (some (.Name y py)) spos.line env = pure true)
    (hclos : closureFor scope env = pure cl) (hcell : ∀ y ∈ scope.names, y.2 ≠ .cell) (hkind : scope.kind = .function)
    (hnames : ∀ y ∈ scope.names, y.2 = .local → scope.names.lookup y.1 = some .local) (hx : scope.names.lookup x = some .local)
    (hcl : ∀ p ∈ cl, env.cells.lookup p.1 = some p.2) (hcn : (cl.map (·.1)).Nodup) (Γc : Gm) (hcap : Cap env scope cl Γ Γc) (hxc : Γc.lookup x = none) (hy : storeOk env y = true)
    (h : IE c env n Γ σ iter fun ds σ₁ => ∃ J : List V → List V → St → Prop, J ds [] σ₁ ∧ CompJ c env n elt x ifs scope cl Γc J ∧ ∀ acc σ', J [] acc σ' → Ψ .next ((y, .list acc) :: Γ) σ')
    (hs : ∀ x, foldedSetIterable iter env x = pure x := by intro _; rfl) : XV c env n Γ σ (exec (.Assign [.Name y py] (.ListComp elt [⟨.Name x px, iter, ifs, 0⟩] scope pos) spos) env) Ψ := by
  refine ⟨fun A own s Q E ar bd kt => ?_⟩
  rw [exec_Assign_Name_used _ _ _ _ hsw]
  refine wpAny_bind (wpAny_standAt (wpAny_bind ?_))
  show wpAny _ A (do let _ ← comprehension (.ListComp elt [⟨.Name x px, iter, ifs, 0⟩] scope pos) scope env _ (newList []) false (eval iter env) (some (assign (.Name y py) env))) _ _ s
  refine wpAny_bind (wpAny_mono (wpAny_comprehension_free (use := some (assign (.Name y py) env)) (Q := fun _ s' => Q .next s') rfl hs hclos hkind hnames ?_) (fun _ s' hq => wpAny_pure (wpAny_pure hq)) fun _ _ e => e)
  refine comp_loop hcell hkind hx hcl hcn hcap hxc h ar bd (RR := fun acc C => compPost c.M A E (some (assign (.Name y py) env)) (fun _ s' => Q .next s') acc C) fun D C acc σ' own' h' tk' m p ow st hC hCa hCl hn r => ?_
  show wpAny _ A (assign (.Name y py) env (.ref D)) _ _ _
  have st' : Stp (adr σ) own s.heap (adr σ') own' h' := st.less fun z q => .tail _ q
  have bd' := bd.step st' ow
  refine wpAny_assign_Name (bd'.store rfl r hy fun h₂ tk₂ bd₂ st₂ => ?_)
  have hnf := frA_sub (env := env) hCl hCa
  obtain ⟨oL, es, ep, e, rr⟩ := hn
  refine ⟨m, ⟨oL, es, ep, st₂.kp.keep _ _ e hnf, rr⟩, fun h₃ sb => ?_⟩
  obtain ⟨g1, g2, g3⟩ := leave bd₂ hC hCa hCl (Kp.same sb (.head _))
  refine kt _ .next _ σ' _ h₃ tk₂ p g1 ?_ .next
  refine Stp.trans (x₁ := C :: (frA env ++ adr σ')) ?_ g2 bd.ow.old
  have t1 : Stp (frA env ++ adr σ) own s.heap (frA env ++ adr σ') own h₂ → True := fun _ => trivial
  have tt := st'.more (f := frA env) |>.trans st₂ bd.ow.old
  refine ⟨tt.kp, tt.sub, tt.new, fun z q => ?_⟩
  cases q with
  | head => exact (st.xnew _ (.head _)).imp (List.mem_append_right _) id
  | tail _ q => exact tt.xnew z q
end

/-! sorting -/
theorem natlt_neg (a b c : List Nat) (h : decide (a < c) = true) : decide (a < b) = true ∨ decide (b < c) = true := by
  simp only [decide_eq_true_eq] at *
  by_cases hab : a < b
  · exact .inl hab
  · exact .inr (List.lt_of_le_of_lt (List.not_lt.mp hab) h)
noncomputable def bytesSK : PyProof.Rows.KeyKind where
  α := List Nat
  blt a b := decide (a < b)
  irrefl a := by simpa using List.lt_irrefl a
  trans a b c h1 h2 := by simp only [decide_eq_true_eq] at *; exact List.lt_trans h1 h2
  negTrans a b c h := natlt_neg a b c h
  total a b h1 h2 := by simp only [decide_eq_false_iff_not] at *; exact List.le_antisymm (List.not_lt.mp h2) (List.not_lt.mp h1)
  keyOf v := match v with | .bytes b _ => some (b.toList.map UInt8.toNat) | _ => none
  dflt := []
noncomputable def intSK : PyProof.Rows.KeyKind where
  α := Int
  blt a b := decide (a < b)
  irrefl a := by simp
  trans a b c h1 h2 := by simp only [decide_eq_true_eq] at *; omega
  negTrans a b c h := by simp only [decide_eq_true_eq] at *; omega
  total a b h1 h2 := by simp only [decide_eq_false_iff_not] at *; omega
  keyOf v := match v with | .int i _ => some i | _ => none
  dflt := 0
theorem intSK_oneLt : intSK.OneLt := by
  intro prog w A E s x y a b Q ha hb h
  cases x <;> simp only [intSK, reduceCtorEq, Option.some.injEq] at ha
  cases y <;> simp only [intSK, reduceCtorEq, Option.some.injEq] at hb
  cases ha; cases hb
  exact oneLt_int h
theorem slot_bytes_lt : Slot "bytes" (cmpInfo .Lt).2.1 "bytes.__lt__" :=
  .of (owner := "bytes") (n := "__lt__") (by rw [typeLookup_type, builtinLookup_eq_fast]; kernel_rfl) (by decide +kernel) (by decide +kernel) (by decide +kernel)
    (by first | exact .inl (by decide +kernel) | exact .inr (by decide +kernel)) (by rw [isSubtype_type]; kernel_rfl)
theorem entry_bytes_lt : entryFor table "bytes.__lt__" = some Builtin.«bytes.__lt__» := entryFor_of_tree (by kernel_rfl)
theorem args_bytes_lt (a b : Value) : argsOk "bytes.__lt__" ⟨[a, b], []⟩ := by unfold argsOk; kernel_rfl
theorem order_lt : ∀ a b : List UInt8, (Builtin.Bytes.order a b == .lt) = decide (a.map UInt8.toNat < b.map UInt8.toNat)
  | [], [] => by decide
  | [], _ :: _ => by
    simp [Builtin.Bytes.order]
  | _ :: _, [] => by
    simp [Builtin.Bytes.order]
  | x :: a, y :: b => by
    have ih := order_lt a b
    simp only [Builtin.Bytes.order, List.map_cons, List.cons_lt_cons_iff]
    by_cases h1 : x < y
    · have : x.toNat < y.toNat := UInt8.lt_iff_toNat_lt.mp h1
      simp [h1, this]
    · have h1' : ¬ x.toNat < y.toNat := fun q => h1 (UInt8.lt_iff_toNat_lt.mpr q)
      by_cases h2 : x > y
      · have : y.toNat < x.toNat := UInt8.lt_iff_toNat_lt.mp h2
        have h3 : ¬ (x.toNat = y.toNat) := by omega
        simp [h1, h2, h1', h3]
      · have h2' : ¬ y.toNat < x.toNat := fun q => h2 (UInt8.lt_iff_toNat_lt.mpr q)
        have h3 : x.toNat = y.toNat := by omega
        rw [if_neg h1, if_neg h2, ih]
        simp [h3]
theorem gives_bytes_lt (b c : Array UInt8) (t u : Tok) : Gives (Builtin.«bytes.__lt__» ⟨[.bytes b t, .bytes c u], []⟩) (.val (.bool (decide (b.toList.map UInt8.toNat < c.toList.map UInt8.toNat)))) := by
  refine .of_wp fun M A E s Q hq => ?_
  show wpAny M A (isInstance (.bytes c u) (.type "bytes") >>= fun r => _) _ E s
  refine wpAny_bind (wpAny_isInstance (typeIs_bytes s c u) F.sub_bytes_bytes ?_)
  exact wpAny_pure ⟨_, rfl, by rw [← order_lt] at hq; exact hq⟩
theorem bytesSK_oneLt : bytesSK.OneLt := by
  intro prog w A E s x y a b Q ha hb h
  cases x <;> simp only [bytesSK, reduceCtorEq, Option.some.injEq] at ha
  cases y <;> simp only [bytesSK, reduceCtorEq, Option.some.injEq] at hb
  cases ha; cases hb
  rw [oneLt'_eq]
  simp only [if_true]
  refine wpAny_bind (wpAny_cRoomFor_byValue rfl ?_)
  refine wpAny_bind (wpAny_callSpecialIfBound?_slot (typeIs_bytes s _ _) slot_bytes_lt (call_gives slot_bytes_lt (typeIs_bytes s _ _) entry_bytes_lt (args_bytes_lt _ _) (gives_bytes_lt _ _ _ _) ?_))
  exact wpAny_truthy_bool h
end Mine
end

section
open PySem PySem.W PyProof.Rows PySem.Calls PySem.Spec
set_option maxRecDepth 100000
namespace Mine

theorem mapM_pure {α β : Type} (f : α → Sem β) (g : α → β) : ∀ {vs : List α}, (∀ v ∈ vs, f v = pure (g v)) → vs.mapM f = pure (vs.map g)
  | [], _ => by simp
  | v :: vs, h => by
    rw [List.mapM_cons, h v (.head _), mapM_pure f g fun u hu => h u (.tail _ hu)]
    simp
theorem keyKind_all {T : String} {v₁ v₂ : Value} {vs : List Value} (h1 : ∀ v ∈ v₁ :: v₂ :: vs, firstOfTuple' v = pure none) (h2 : ∀ v ∈ v₁ :: v₂ :: vs, typeOf v = pure (Value.type T)) : keyKind' (v₁ :: v₂ :: vs).toArray = pure oneType' := by
  rw [keyKind'_eq, List.mapM_toArray, mapM_pure _ (fun _ => none) h1]
  simp only [map_pure, pure_bind]
  rw [if_neg (by simp), if_neg (by simp)]
  rw [oneTypeOnly'_eq, List.mapM_toArray, mapM_pure _ (fun _ => Value.type T) h2]
  simp only [map_pure, pure_bind]
  have hall : ((List.map (fun _ => Value.type T) (v₁ :: v₂ :: vs)).toArray.all fun x => x == Value.type T) = true := by
    simp only [List.all_toArray, List.all_map, List.all_eq_true]
    intro _ _
    exact beq_self_eq_true _
  have h0 : (List.map (fun _ => Value.type T) (v₁ :: v₂ :: vs)).toArray[0]? = some (Value.type T) := by simp
  rw [h0]
  simp only [hall, if_true, pure_bind, Option.isSome_some]

noncomputable def sk : Kd → PyProof.Rows.KeyKind
  | .s => PyProof.Rows.strKind
  | .i => intSK
  | .b => bytesSK
noncomputable def skEnc : (k : Kd) → k.T → (sk k).α
  | .s, x => x.cps.toList
  | .i, x => x
  | .b, x => x.map UInt8.toNat
theorem skEnc_inj : ∀ (k : Kd) (x y : k.T), skEnc k x = skEnc k y → x = y
  | .s, ⟨a⟩, ⟨b⟩, h => by
    have : a.toList = b.toList := h
    rw [Array.toList_inj.mp this]
  | .i, x, y, h => h
  | .b, x, y, h => by
    have h : x.map UInt8.toNat = y.map UInt8.toNat := h
    exact List.map_inj_right (fun a b e => UInt8.toNat_inj.mp e) |>.mp h
theorem sk_oneLt : ∀ k : Kd, (sk k).OneLt
  | .s => strKind_oneLt
  | .i => intSK_oneLt
  | .b => bytesSK_oneLt
noncomputable def SrtOk (k : Kd) (l : List k.T) : Prop := l.Pairwise fun a b => (sk k).kle (skEnc k a) (skEnc k b)
open Classical in
/-- the sorted keys -/
noncomputable def srt (k : Kd) (ks : List k.T) : List k.T := if h : ∃ l : List k.T, l.Perm ks ∧ SrtOk k l then h.choose else ks
theorem srt_perm (k : Kd) (ks : List k.T) : (srt k ks).Perm ks := by
  unfold srt
  split
  · rename_i h; exact h.choose_spec.1
  · exact List.Perm.refl _
theorem srt_eq {k : Kd} {ks l : List k.T} (hp : l.Perm ks) (hs : SrtOk k l) : l = srt k ks := by
  have h : ∃ l : List k.T, l.Perm ks ∧ SrtOk k l := ⟨l, hp, hs⟩
  have e : srt k ks = h.choose := by unfold srt; rw [dif_pos h]
  rw [e]
  exact List.Perm.eq_of_pairwise (le := fun a b => (sk k).kle (skEnc k a) (skEnc k b)) (fun a b _ _ h1 h2 => skEnc_inj k a b (PyProof.Rows.KeyOrd.kle_antisymm h1 h2)) hs h.choose_spec.2 (hp.trans h.choose_spec.1.symm)

/-- the key of a value -/
noncomputable def keyV : (k : Kd) → Value → k.T
  | .s, v => match v with | .str x _ => x | _ => ⟨#[]⟩
  | .i, v => match v with | .int x _ => x | _ => (0 : Int)
  | .b, v => match v with | .bytes x _ => x.toList | _ => ([] : List UInt8)
noncomputable def IsKey (w : World) (k : Kd) (v : Value) : Prop := ∃ x, (k.knd w).is x v = true
theorem IsKey.shape {w : World} : ∀ {k : Kd} {v : Value}, IsKey w k v → (∀ x, (k.knd w).is x v = true → x = keyV k v) ∧ (sk k).keyOf v = some (skEnc k (keyV k v)) ∧ (∀ h, Rp w h v (.key k (keyV k v))) ∧ firstOfTuple' v = pure none ∧ typeOf v = pure (Value.type (match k with | .s => "str" | .i => "int" | .b => "bytes"))
  | .s, v, ⟨x, h⟩ => by
    obtain ⟨t, rfl⟩ := Value.isStrOf_shape h
    exact ⟨fun y q => (Kd.knd w .s).inj _ _ _ q h, rfl, fun _ => .str _ _, rfl, rfl⟩
  | .i, v, ⟨x, h⟩ => by
    obtain ⟨t, rfl⟩ := Value.isInt_shape h
    exact ⟨fun y q => (Kd.knd w .i).inj _ _ _ q h, rfl, fun _ => .int _ _, rfl, rfl⟩
  | .b, v, ⟨x, h⟩ => by
    obtain ⟨t, rfl⟩ := isBytes_shape h
    exact ⟨fun y q => (Kd.knd w .b).inj _ _ _ q h, rfl, fun _ => .bytes _ _, rfl, rfl⟩

section
variable {c : Cx} {env : Env} {n : Nat} {Γ : Gm} {σ : St} {Φ : V → St → Prop} {Ψ : Fl → Gm → St → Prop}

theorem rps_keys {w : World} {h : Heap} {k : Kd} : ∀ {vs : List Value}, (∀ v ∈ vs, IsKey w k v) → Rps w h vs (vs.map fun v => V.key k (keyV k v))
  | [], _ => .nil
  | v :: vs, hv => .cons ((hv v (.head _)).shape.2.2.1 h) (rps_keys fun u hu => hv u (.tail _ hu))
/-- what list.sort leaves -/
theorem sort_out {w : World} {h : Heap} {k : Kd} {vs : List Value} (hv : ∀ v ∈ vs, IsKey w k v) {st' : SortSt} (hp : (arrOf st').Perm (pairsOf vs)) (hs : SortedToK (sk k) (arrOf st') (pairsOf vs).size) :
    Rps w h ((arrOf st').map (·.2)).toList ((srt k (vs.map (keyV k))).map (V.key k)) := by
  have hl : (arrOf st').toList.Perm (vs.zip vs) := by rw [← pairsOf_toList]; exact hp.toList
  have hmem : ∀ p ∈ (arrOf st').toList, p.1 = p.2 ∧ IsKey w k p.1 := fun p q => by
    obtain ⟨h1, h2⟩ := mem_zip_self (hl.mem_iff.mp q)
    exact ⟨h1, hv _ h2⟩
  have e1 : ((arrOf st').map (·.2)).toList = (arrOf st').toList.map (·.1) := by
    rw [Array.toList_map]
    exact List.map_congr_left fun p q => (hmem p q).1.symm
  have e2 : srt k (vs.map (keyV k)) = ((arrOf st').toList.map (·.1)).map (keyV k) := by
    refine (srt_eq ?_ ?_).symm
    · have := (hl.map (·.1)).map (keyV k)
      rwa [List.map_fst_zip (Nat.le_refl _)] at this
    · unfold SrtOk
      rw [List.map_map, List.pairwise_map, List.pairwise_iff_getElem]
      intro i j hi hj hij
      have hi' : i < (arrOf st').size := by simpa using hi
      have hj' : j < (arrOf st').size := by simpa using hj
      have h1 := hs i j (Nat.le_of_lt hij) (by rw [← hp.size_eq]; exact hj')
      have kk : ∀ i (hi : i < (arrOf st').size), KK (sk k) (arrOf st') i = skEnc k (keyV k (arrOf st')[i].1) := fun i hi => by
        unfold KK
        rw [getElem?_pos (arrOf st') i hi]
        dsimp only
        rw [((hmem (arrOf st')[i] (by simp)).2).shape.2.1]
        rfl
      rw [kk i hi', kk j hj'] at h1
      simpa using h1
  rw [e1, e2, List.map_map]
  refine rps_keys fun v q => ?_
  obtain ⟨p, hp, rfl⟩ := List.mem_map.mp q
  exact (hmem p hp).2
/-- sorted(d) -/
theorem cv_sorted {d : V} (k : Kd) {es : List (k.T × V)} (i : IsD σ d k es) (hz : es.length < 64) (p : Φ (.list ((srt k (es.map (·.1))).map (V.key k))) σ) : CV c n (.builtin "sorted") [d] σ Φ := by
  refine ⟨fun A own s vs Q E ar ow r kt => ?_⟩
  replace r := r.inv; obtain ⟨_, _, rfl, ra, r⟩ := r
  (first | obtain rfl := r.inv | obtain ⟨_, rfl⟩ := r.inv | cases r)
  obtain ⟨a, ents, m, rfl, e1, e2, e3, e4⟩ := i.inv ow ra
  obtain ⟨kvs, ⟨o, es', ep, g1, g2⟩, kv⟩ := dict_of (w := c.w) e1 e2 e3
  have hat : s.heap.DictAt (k.knd c.w) a kvs ep := ⟨o, es', g1, g2⟩
  have hlen := kv.length
  refine Calls.call_function_entry kind_sorted plain_sorted entry_sorted (args_sorted1 _) ?_
  unfold Builtin.«sorted»
  refine wpAny_bind (m := checkCount "sorted" 1 1 _) (wpAny_pure ?_)
  refine wpAny_bind (kdu_collect (A := A.in1) (kdl_dict (knd := k.knd c.w) (kvs := kvs) (ep := ep) e4) ar.handled hat (by rw [hlen, sizeLine_eq]; omega) fun h' tk acc hk hacc => ?_)
  have hl : acc.toList.length = kvs.length := by rw [Array.length_toList]; exact hacc.1
  refine wpAny_bind (wpAny_newList ?_ (by rw [hl, hlen, sizeLine_eq]; omega))
  have kp : Kp [] s.heap h' := ⟨fun b o e _ => hk b o e⟩
  have ow1 := ow.quiet kp
  have hkeys : ∀ (j : Nat) v, acc.toList[j]? = some v → ∃ x u, kvs[j]? = some (x, u) ∧ (k.knd c.w).is x v = true := fun j v q => hacc.2 j v (by rw [← Array.getElem?_toList]; exact q)
  have hall : ∀ v ∈ acc.toList, IsKey c.w k v := fun v q => by
    obtain ⟨j, hj⟩ := List.getElem?_of_mem q
    obtain ⟨x, u, _, h2⟩ := hkeys j v hj
    exact ⟨x, h2⟩
  have hks : acc.toList.map (keyV k) = es.map (·.1) := by
    rw [← kv.keys]
    apply List.ext_getElem?
    intro j
    rw [List.getElem?_map, List.getElem?_map]
    cases hj : acc.toList[j]? with
    | none =>
      have : kvs[j]? = none := by
        rw [List.getElem?_eq_none_iff] at hj ⊢; omega
      rw [this]; rfl
    | some v =>
      obtain ⟨x, u, h1, h2⟩ := hkeys j v hj
      rw [h1]
      simp [(hall v (List.mem_of_getElem? hj)).shape.1 x h2]
  have hoL : (h'.push (seqObj "list" acc.toList.toArray 0)).get? h'.objs.size = some (seqObj "list" acc.toList.toArray 0) := Heap.get?_push_size _ rfl
  refine wpAny_bind (wpAny_holding (wpAny_call_entry slot_list_sort ⟨_, hoL, rfl⟩ entry_list_sort (list_sort_treeK (sk_oneLt k) hoL (fun p q => ?_) (fun v₁ v₂ rest e => ?_) (by rw [hl, hlen]; exact hz) fun st' a1 a2 => ⟨_, rfl, ?_⟩) (args_list_sort _)))
  · rw [pairsOf_toList] at q
    exact ⟨_, (hall _ (mem_zip_self q).2).shape.2.1⟩
  · exact keyKind_all (fun v q => (hall v (by rw [e]; exact q)).shape.2.2.2.1) (fun v q => (hall v (by rw [e]; exact q)).shape.2.2.2.2)
  · refine wpAny_pure ⟨_, rfl, ?_⟩
    obtain ⟨ee, he⟩ := sortedHeap_at (h := h'.push (seqObj "list" acc.toList.toArray 0)) (out := (arrOf st').map (·.2)) hoL
    have hn : h'.get? h'.objs.size = none := new_ge (Nat.le_refl _)
    have kp2 : Kp [] h' (sortedHeap (h'.push (seqObj "list" acc.toList.toArray 0)) h'.objs.size acc.toList ((arrOf st').map (·.2))) := ⟨fun b o e _ => by
      have hb : b ≠ h'.objs.size := fun q => not_new ⟨o, e⟩ (q ▸ hn)
      rw [sortedHeap_old hb (Heap.lt_size (Heap.get?_push_of_some _ e))]
      exact Heap.get?_push_of_some _ e⟩
    have kp3 := kp.trans kp2 fun _ q => nomatch q
    have ow3 := ow.quiet kp3
    have st3 : Stp (adr σ) own s.heap (adr σ) own _ := .quiet kp3
    refine kt _ _ σ own _ _ p ow3 st3 ?_
    have hD : (sortedHeap (h'.push (seqObj "list" acc.toList.toArray 0)) h'.objs.size acc.toList ((arrOf st').map (·.2))).get? h'.objs.size = some (listO ((arrOf st').map (·.2)).toList ee) := by
      rw [he]
    have hout := sort_out (h := hideAll (sortedHeap (h'.push (seqObj "list" acc.toList.toArray 0)) h'.objs.size acc.toList ((arrOf st').map (·.2))) own) hall a1 a2
    rw [hks] at hout
    exact .list (hideAll_get own hD fun q => not_new (ow1.old _ q) hn) hout
end
end Mine
end

section
open PySem PySem.W PyProof.Rows PySem.Calls PySem.Spec
set_option maxRecDepth 100000
namespace Mine

theorem no_bytes_bytes : typeLookup (.type "bytes") "__bytes__" = pure (some (.builtin "bytes.__bytes__")) := by rw [typeLookup_type, builtinLookup_eq_fast]; kernel_rfl
theorem b_new_bytes {prog : Program} {w : World} {A : Around} {E : Value → Shared → Prop} {s : Shared} {b : Array UInt8} {t : Tok} {Q : Value → Shared → Prop} (hQ : Q (.bytes b t) s) :
    codeAny (model prog w) A (.call (.builtin "bytes.__new__") ⟨[.type "bytes", .bytes b t], []⟩) (wants Q E) s := by
  refine codeAny_of_tree ?_
  show wpAny _ A.in1 (do checkBuiltinCall "bytes.__new__" ⟨[.type "bytes", .bytes b t], []⟩; again (.builtin "bytes.__new__" ⟨[.type "bytes", .bytes b t], []⟩)) _ _ s
  refine wpAny_bind (wpAny_of_eq (PySem.F.bm_newCall _) (wpAny_pure ⟨plainId_quiet PySem.F.bm_plain _, codeAny_builtin PySem.F.bm_entry ?_⟩))
  rw [Around.under_plainId PySem.F.bm_plain _]
  have hT : s.TypeIs (.bytes b t) "bytes" := rfl
  unfold Builtin.«bytes.__new__»
  refine wpAny_bind (wpAny_of_eq (a := true) rfl ?_)
  refine bm_if_false rfl ?_
  refine wpAny_bind (wpAny_of_eq PySem.F.bm_sub ?_)
  refine bm_if_false rfl ?_
  refine wpAny_bind (wpAny_of_eq (PySem.F.bm_bind _) ?_)
  refine wpAny_bind (wpAny_of_eq (a := ()) rfl ?_)
  refine wpAny_bind (wpAny_of_eq (a := ()) rfl ?_)
  refine bm_if_false rfl ?_
  refine wpAny_bind (wpAny_specialOf hT no_bytes_bytes ?_)
  refine wpAny_bind (wpAny_rule ?_)
  refine wpAny_bind (wpAny_of_eq (a := Value.type "bytes") rfl ?_)
  refine bm_if_true rfl ?_
  exact wpAny_pure hQ

section
variable {c : Cx} {env : Env} {n : Nat} {Γ : Gm} {σ : St} {Φ : V → St → Prop} {Ψ : Fl → Gm → St → Prop}

theorem cv_bytesB {b : List UInt8} (p : Φ (.bytes b) σ) : CV c n (.type "bytes") [.bytes b] σ Φ := by
  refine ⟨fun A own s vs Q E ar ow r k => ?_⟩
  replace r := r.inv; obtain ⟨_, _, rfl, r1, r2⟩ := r
  (first | obtain rfl := r2.inv | obtain ⟨_, rfl⟩ := r2.inv | cases r2)
  (first | obtain rfl := r1.inv | obtain ⟨_, rfl⟩ := r1.inv | cases r1)
  refine callType_codes (Q₁ := fun obj s₁ => s₁.TypeIs obj "bytes" ∧ Q obj s₁) PySem.F.bm_called (PySem.F.bm_typeCall _) PySem.F.entry_object_init (b_new_bytes ⟨rfl, k _ _ σ own s.heap s.toks p ow (.refl _ _ _) (.bytes _ _)⟩) fun obj s₁ h₁ => ?_
  exact ⟨h₁.1, PySem.F.args_object_init_2 obj _, object_init_meets PySem.F.bm_called.init.lookup PySem.F.bm_called.made (by decide) prg c.w A.in1 _ s₁ ⟨h₁.1, rfl, h₁.2⟩⟩
theorem rps_ints {w : World} {h : Heap} : ∀ {ns : List Int} {vs : List Value}, Rps w h vs (ns.map V.int) → IntsAre vs ns
  | [], _, r => by (first | obtain rfl := r.inv | obtain ⟨_, rfl⟩ := r.inv | cases r); exact .nil
  | n :: ns, _, r => by
    replace r := r.inv; obtain ⟨_, _, rfl, r1, r2⟩ := r
    (first | obtain rfl := r1.inv | obtain ⟨_, rfl⟩ := r1.inv | cases r1); exact .cons _ _ (rps_ints r2)
theorem cv_bytesL {d : V} {ns : List Int} (q : IsLs σ d (ns.map V.int)) (hr : ∀ n ∈ ns, 0 ≤ n ∧ n < 256) (hz : ns.length ≤ 1000) (p : Φ (.bytes (ns.map fun n => n.toNat.toUInt8)) σ) : CV c n (.type "bytes") [d] σ Φ := by
  refine ⟨fun A own s vs Q E ar ow r k => ?_⟩
  replace r := r.inv; obtain ⟨_, _, rfl, r1, r2⟩ := r
  (first | obtain rfl := r2.inv | obtain ⟨_, rfl⟩ := r2.inv | cases r2)
  obtain ⟨a, vs, m, rfl, hl, r⟩ := q.inv ow r1
  have hlen := r.length
  rw [List.length_map] at hlen
  refine call_bytes_ints (isList_of hl) (rps_ints r) hr (by rw [hlen, sizeLine_eq]; omega) ar.handled fun h' t tk hk => ?_
  have kp : Kp [] s.heap h' := ⟨fun b o e _ => hk b o e⟩
  exact k _ _ σ own h' tk p (ow.quiet kp) (.quiet kp) (.bytes (ns.map fun n => n.toNat.toUInt8) t)
theorem cv_abs {i : Int} (p : Φ (.int (if i < 0 then -i else i)) σ) : CV c n (.builtin "abs") [.int i] σ Φ := by
  refine ⟨fun A own s vs Q E ar ow r k => ?_⟩
  replace r := r.inv; obtain ⟨_, _, rfl, r1, r2⟩ := r
  (first | obtain rfl := r2.inv | obtain ⟨_, rfl⟩ := r2.inv | cases r2)
  (first | obtain rfl := r1.inv | obtain ⟨_, rfl⟩ := r1.inv | cases r1)
  exact call_abs_int fun u tk => k _ _ σ own s.heap tk p ow (.refl _ _ _) (.int _ u)
theorem cv_ord {ch : Nat} (p : Φ (.int ch) σ) : CV c n (.builtin "ord") [.str ⟨#[ch]⟩] σ Φ := by
  refine ⟨fun A own s vs Q E ar ow r k => ?_⟩
  replace r := r.inv; obtain ⟨_, _, rfl, r1, r2⟩ := r
  (first | obtain rfl := r2.inv | obtain ⟨_, rfl⟩ := r2.inv | cases r2)
  (first | obtain rfl := r1.inv | obtain ⟨_, rfl⟩ := r1.inv | cases r1)
  exact PySem.P.ord_of_char (k _ _ σ own s.heap _ p ow (.refl _ _ _) (.int _ _))
theorem p1_neg {i : Int} (p : Φ (.int (-i)) σ) : P1 c n (.int i) σ (unaryOp .USub) Φ := by
  refine ⟨fun A own s v Q E ar ow r k => ?_⟩
  (first | obtain rfl := r.inv | obtain ⟨_, rfl⟩ := r.inv | cases r)
  exact PyProof.Rows.neg_int (k _ _ σ own s.heap _ p ow (.refl _ _ _) (.int _ _))

/-- is None, is True -/
noncomputable def vis (d : V) (b : V) : Option Bool := match d, b with
  | .obj _, _ => none
  | .none, .none => some true
  | _, .none => some false
  | .bool x, .bool true => some x
  | _, .bool true => some false
  | _, _ => none
theorem vis_ok {w : World} {h : Heap} {d e : V} {b : Bool} {u v : Value} (q : vis d e = some b) (ru : Rp w h u d) (rv : Rp w h v e) : plainIs u v = true ∧ (u == v) = b := by
  cases e with
  | none =>
    (first | obtain rfl := rv.inv | obtain ⟨_, rfl⟩ := rv.inv | cases rv)
    (first | obtain rfl := ru.inv | obtain ⟨_, rfl⟩ := ru.inv | cases ru) <;> simp [vis] at q <;> subst q <;> exact ⟨rfl, by first | rfl | decide⟩
  | bool y =>
    (first | obtain rfl := rv.inv | obtain ⟨_, rfl⟩ := rv.inv | cases rv)
    cases y with
    | true =>
      cases ru with
      | bool x => simp [vis] at q; subst q; cases x <;> exact ⟨rfl, by decide⟩
      | obj _ => simp [vis] at q
      | _ => simp [vis] at q; subst q; exact ⟨rfl, by first | rfl | decide⟩
    | false => cases d <;> simp [vis] at q
  | _ => cases d <;> simp [vis] at q
theorem p2_is {d e : V} {b : Bool} (q : vis d e = some b) (p : Φ (.bool b) σ) : P2 c n d e σ (compareOp .Is) Φ := by
  refine ⟨fun A own s u v Q E ar ow ru rv k => ?_⟩
  obtain ⟨h1, h2⟩ := vis_ok q ru rv
  exact wpAny_is_plain h1 (by rw [h2]; exact k _ _ σ own s.heap s.toks p ow (.refl _ _ _) (.bool _))
theorem p2_isnot {d e : V} {b : Bool} (q : vis d e = some b) (p : Φ (.bool (!b)) σ) : P2 c n d e σ (compareOp .IsNot) Φ := by
  refine ⟨fun A own s u v Q E ar ow ru rv k => ?_⟩
  obtain ⟨h1, h2⟩ := vis_ok q ru rv
  exact wpAny_isNot_plain h1 (by rw [h2]; exact k _ _ σ own s.heap s.toks p ow (.refl _ _ _) (.bool _))

/-- and, or as values -/
theorem ev_bone {op : BoolOp} {e : Expr} {pos : Pos} (h : EV c env n Γ σ (eval e env) Φ) : EV c env n Γ σ (eval (.BoolOp op [e] pos) env) Φ :=
  ⟨fun A own s Q E ar bd k => BoolOp_one (h.run A own s Q E ar bd k)⟩
theorem ev_and {e₁ e₂ : Expr} {rest : List Expr} {pos : Pos} (h : EV c env n Γ σ (eval e₁ env) fun d σ₁ => ∃ b, d = .bool b ∧ if b then EV c env n Γ σ₁ (eval (.BoolOp .And (e₂ :: rest) pos) env) Φ else Φ (.bool false) σ₁) : EV c env n Γ σ (eval (.BoolOp .And (e₁ :: e₂ :: rest) pos) env) Φ := by
  refine ⟨fun A own s Q E ar bd k => ?_⟩
  refine BoolOp_and (h.run A own s _ E ar bd fun v d σ₁ own₁ h₁ tk₁ p ow₁ st₁ r₁ => ?_)
  obtain ⟨b, rfl, p⟩ := p
  cases r₁
  refine wpAny_truthy_bool ?_
  cases b with
  | true => exact p.run A own₁ _ Q E ar (bd.step st₁ ow₁) fun v d σ₂ own₂ h₂ tk₂ p₂ ow₂ st₂ r₂ => k v d σ₂ own₂ h₂ tk₂ p₂ ow₂ (st₁.trans st₂ bd.ow.old) r₂
  | false => exact k _ _ σ₁ own₁ h₁ tk₁ p ow₁ st₁ (.bool _)
/-- a < b < c -/
theorem ev_chain {l r₁ r₂ : Expr} {op₁ op₂ : CmpOp} {pos : Pos} (h : EV c env n Γ σ (eval l env) fun a σ₁ => EV c env n Γ σ₁ (eval r₁ env) fun b σ₂ => P2 c n a b σ₂ (compareOp op₁) fun t σ₃ => ∃ bb, t = .bool bb ∧
      if bb then EV c env n Γ σ₃ (eval r₂ env) fun e σ₄ => P2 c n b e σ₄ (compareOp op₂) Φ else Φ (.bool false) σ₃)
    (hm : lastMarks [op₁, op₂] [r₁, r₂] = false := by with_unfolding_all rfl) : EV c env n Γ σ (eval (.Compare l [op₁, op₂] [r₁, r₂] pos) env) Φ := by
  refine ⟨fun A own s Q E ar bd k => ?_⟩
  refine Compare_chain (h.run A own s _ E ar bd fun u a σ₁ own₁ h₁ tk₁ p₁ ow₁ st₁ ru => ?_) hm
  have bd₁ := bd.step st₁ ow₁
  refine chain_link (p₁.run A own₁ _ _ E ar bd₁ fun v b σ₂ own₂ h₂ tk₂ p₂ ow₂ st₂ rv => ?_)
  have bd₂ := bd₁.step st₂ ow₂
  refine p₂.run A own₂ _ u v _ E ar ow₂ (ru.mono (ow₁.stp st₂)) rv fun t d σ₃ own₃ h₃ tk₃ p₃ ow₃ st₃ rt => ?_
  obtain ⟨bb, rfl, p₃⟩ := p₃
  (first | obtain rfl := rt.inv | obtain ⟨_, rfl⟩ := rt.inv | cases rt)
  have bd₃ := bd₂.step st₃ ow₃
  have tot := (st₁.trans st₂ bd.ow.old).trans st₃ bd.ow.old
  refine wpAny_truthy_bool ?_
  cases bb with
  | false => exact k _ _ σ₃ own₃ h₃ tk₃ p₃ ow₃ tot (.bool _)
  | true =>
    refine chain_last (p₃.run A own₃ _ _ E ar bd₃ fun x e σ₄ own₄ h₄ tk₄ p₄ ow₄ st₄ rx => ?_)
    exact p₄.run A own₄ _ v x Q E ar ow₄ ((rv.mono (ow₂.stp st₃)).mono (ow₃.stp st₄)) rx fun y g σ₅ own₅ h₅ tk₅ p₅ ow₅ st₅ ry => k y g σ₅ own₅ h₅ tk₅ p₅ ow₅ ((tot.trans st₄ bd.ow.old).trans st₅ bd.ow.old) ry

/-- [x] * k -/
theorem foldl_rep {α : Type} (x : Array α) : ∀ (k : Nat) (acc : Array α), (List.foldl (fun a b => a ++ b) acc (List.replicate k x)).toList = acc.toList ++ (List.replicate k x.toList).flatten
  | 0, acc => by simp
  | k + 1, acc => by rw [List.replicate_succ, List.foldl_cons, foldl_rep x k, List.replicate_succ, List.flatten_cons]; simp
theorem rps_rep {w : World} {h : Heap} {v : Value} {d : V} (r : Rp w h v d) : ∀ k : Nat, Rps w h (List.replicate k [v]).flatten (List.replicate k d)
  | 0 => .nil
  | k + 1 => by rw [List.replicate_succ, List.replicate_succ, List.flatten_cons]; exact .cons r (rps_rep r k)
theorem mul_core {prog : Program} {w : World} {A : Around} {E : Value → Shared → Prop} {s : Shared} {a : Addr} {items : Array Value} {m : Nat} {x : Int} {t : Tok} {Q : Value → Shared → Prop} (hl : IsL s.heap a items m) (h1 : items.size = 1) (h0 : 0 ≤ x) (hx : x ≤ 1000)
    (h : Q (.ref s.heap.objs.size) { s with heap := s.heap.push { cls := .type "list", data := .seq (List.foldl (fun x1 x2 => x1 ++ x2) #[] (List.replicate (if items.isEmpty = true then 0 else x.toNat) items)) } }) :
    wpAny (model prog w) A (binaryOp .Mult (.ref a) (.int x t)) Q E s := by
  refine wpAny_binaryOp_repeat_ref (T := "list") (U := "int") (by decide) ⟨_, hl, rfl⟩ (fun s' => typeIs_int s' _ t) noFill_list_mul PySem.F.fills_int_mul PySem.F.slot_int_rmul repeat_list PySem.F.slot_int_index.lookup
    (call_meets PySem.F.slot_int_rmul (typeIs_int s _ t) PySem.F.entry_int_rmul (PySem.F.args_int_rmul_2 _ _) (int___rmul___int_list _ t a items m)
      ⟨hl, rfl, ⟨_, hl, rfl⟩, call_meets PySem.F.slot_list_mul ⟨_, hl, rfl⟩ PySem.F.entry_list_mul (PySem.F.args_list_mul_2 _ _)
        (AutoListH.list___mul___list_int_3 a items m x t (by simp [Builtin.List.listFitsIndex]; omega) (by rw [h1]; omega) (by rw [h1]; simp [Builtin.List.listTooLong, sizeLine]; omega))
        ⟨hl, h⟩⟩)
theorem p2_mulL {d e : V} {k : Nat} (q : IsLs σ d [e]) (hk : k ≤ 1000) (p : Φ (.list (List.replicate k e)) σ) : P2 c n d (.int k) σ (binaryOp .Mult) Φ := by
  refine ⟨fun A own s u v Q E ar ow ra rb kt => ?_⟩
  (first | obtain rfl := rb.inv | obtain ⟨_, rfl⟩ := rb.inv | cases rb)
  rename_i t
  obtain ⟨a, vs, m, rfl, hl, r⟩ := q.inv ow ra
  replace r := r.inv; obtain ⟨_, _, rfl, r1, r2⟩ := r
  (first | obtain rfl := r2.inv | obtain ⟨_, rfl⟩ := r2.inv | cases r2)
  rename_i x
  refine mul_core hl rfl (by omega) (by omega) ?_
  have e0 : (List.foldl (fun x1 x2 => x1 ++ x2) #[] (List.replicate (if [x].toArray.isEmpty = true then 0 else (k : Int).toNat) [x].toArray)) = ((List.replicate k [x]).flatten).toArray := by
    apply Array.toList_inj.mp
    rw [foldl_rep]
    simp
  rw [e0]
  refine kt _ _ σ own _ s.toks p (ow.push _) (.quiet (Kp.push [] _ _)) ?_
  exact .list (n := 0) (vs := (List.replicate k [x]).flatten) (hide_new ow (ob := listO (List.replicate k [x]).flatten 0) rfl) (rps_rep (r1.mono (ow.stp (x' := adr σ) (.quiet (Kp.push [] _ _)))) k)
/-- d != {} -/
theorem p2_neD {d d' : V} (k : Kd) {es : List (k.T × V)} (i : IsD σ d k es) (i' : IsD σ d' k []) (p : Φ (.bool (!es.isEmpty)) σ) : P2 c n d d' σ (compareOp .NotEq) Φ := by
  refine ⟨fun A own s u v Q E ar ow ra rb kt => ?_⟩
  obtain ⟨a, ents, m, rfl, e1, e2, e3, e4⟩ := i.inv ow ra
  obtain ⟨b, ents', m', rfl, g1, g2, g3, g4⟩ := i'.inv ow rb
  obtain ⟨kvs, hd, kv⟩ := dict_of (w := c.w) e1 e2 e3
  obtain ⟨kvs', hd', kv'⟩ := dict_of (w := c.w) g1 g2 g3
  have hl := kv.length
  have hl' := kv'.length
  refine keq_ne (r := true) e4 g4 hd hd' (ar.room (k := 0) (by omega)) (fun e => ?_) ?_
  · have : kvs = [] := List.length_eq_zero_iff.mp (by rw [e, hl']; rfl)
    subst this
    exact .nil
  · have : (!(kvs.length == kvs'.length && true)) = !es.isEmpty := by
      rw [hl, hl', Bool.and_true]
      cases es <;> rfl
    rw [this]
    exact kt _ _ σ own s.heap s.toks p ow (.refl _ _ _) (.bool _)
/-- the signs of a str -/
theorem iv_str {x : Str} : IV c n (.str x) σ (x.cps.toList.map fun ch => V.str ⟨#[ch]⟩) := by
  refine ⟨fun A own s v Q E ar ow r k => ?_⟩
  (first | obtain rfl := r.inv | obtain ⟨_, rfl⟩ := r.inv | cases r)
  rename_i t
  have hn : s.heap.get? s.heap.objs.size = none := new_ge (Nat.le_refl _)
  cases ha : x.cps.all (· < 128)
  · refine wpAny_pyIter_wide ha ?_
    refine k _ _ s.toks hn (Kp.push [] _ _) ⟨_, _, _, 0, x.cps.size, Walks.strWide ar.handled _ x t, ⟨_, Heap.get?_push_size _ rfl, rfl, rfl⟩, by simp, fun b hb => .inl (by simpa using hb), fun j v q => ?_, .head _, fun j h q => ?_⟩
    · obtain ⟨ch, u, q1, rfl⟩ := q
      rw [Nat.zero_add] at q1
      exact ⟨_, by rw [List.getElem?_map, Array.getElem?_toList, q1]; rfl, .str _ u⟩
    · obtain ⟨o, q1, q2, q3⟩ := q
      exact ⟨o, _, q1, q2, by decide⟩
  · refine wpAny_pyIter_ascii ha ?_
    refine k _ _ s.toks hn (Kp.push [] _ _) ⟨_, _, _, 0, x.cps.size, Walks.strAscii ar.handled _ x t, ⟨_, Heap.get?_push_size _ rfl, rfl, rfl⟩, by simp, fun b hb => .inl (by simpa using hb), fun j v q => ?_, .head _, fun j h q => ?_⟩
    · obtain ⟨ch, u, q1, rfl⟩ := q
      rw [Nat.zero_add] at q1
      exact ⟨_, by rw [List.getElem?_map, Array.getElem?_toList, q1]; rfl, .str _ u⟩
    · obtain ⟨o, q1, q2, q3⟩ := q
      exact ⟨o, _, q1, q2, by decide⟩
end
end Mine
end

section
open PySem PySem.W PyProof.Rows PySem.Calls PySem.Spec
set_option maxRecDepth 100000
namespace Mine

section
variable {c : Cx} {env : Env} {n : Nat} {Γ : Gm} {σ : St} {Φ : V → St → Prop} {Ψ : Fl → Gm → St → Prop}
theorem x_self {C dx : Addr} {s attr : Str} {e : Expr} {p p' pos : Pos} (hl : Γ.lookup s = some (.raw C dx)) (so : SetOk c.w C attr) (h : EV c env n Γ σ (eval e env) fun dv σ₁ => ∃ σ₀ fs, σ₁ = σ₀ ++ [(dx, .attrs fs)] ∧ fs.lookup attr = none ∧ fs.length ≤ 1000 ∧ Ψ .next Γ (σ₀ ++ [(dx, .attrs (fs ++ [(attr, dv)]))]))
    (hs : swapsWith e (some (.Attribute (.Name s p) attr p')) pos.line env = pure false := by rfl) (hd : (s == ("__debug__" : Str)) = false := by decide) (hn : (s == ("__classdict__" : Str)) = false := by decide) : XV c env n Γ σ (exec (.Assign [.Attribute (.Name s p) attr p'] e pos) env) Ψ := by
  refine x_setattr (h.mono fun dv σ₁ q => ev_var hl ?_ hd hn) hs
  obtain ⟨σ₀, fs, rfl, h1, h2, h3⟩ := q
  refine ⟨C, dx, σ₀.length, fs, rfl, by simp, so, h1, h2, ?_⟩
  rw [List.set_append_right _ _ (Nat.le_refl _)]
  simpa using h3

noncomputable abbrev nameV (t : Str) : V := .inst 183 [("text", .str t)]
noncomputable abbrev stringV (b : List UInt8) : V := .inst 205 [("octets", .bytes b), ("is_hex", .bool false)]
noncomputable abbrev refV (i g : Int) : V := .inst 254 [("number", .int i), ("generation", .int g)]
noncomputable abbrev decV : V := .inst 155 [("top", .int 25), ("places", .int 1)]
noncomputable abbrev shelfV (t tr : V) : V := .inst 363 [("table", t), ("trailer", tr)]

noncomputable def IniR (dx : Addr) (σ : St) (fs : List (Str × V)) (d : V) (σ' : St) : Prop := d = .none ∧ σ' = σ ++ [(dx, .attrs fs)]
theorem fc_newI {C fI : Addr} {ds : List V} {fs : List (Str × V)} (hm : makesIn (HpK c.w.params) C = true) (hi : findIn (HpK c.w.params) (.ref C) "__init__" = some (some (.ref fI))) (hf : typeIn (HpK c.w.params) (.ref fI) = some (.type "function"))
    (h : ∀ dx, FC c n (.ref fI) (.raw C dx :: ds) (σ ++ [(dx, .attrs [])]) (IniR dx σ fs)) (p : Φ (.inst C fs) σ) : FC c (n + 1) (.ref C) ds σ Φ := by
  refine fc_new hm hi hf fun dx => ?_
  refine ⟨fun A own s vs R ar ow r k => (h dx).run A own s vs R ar ow r fun v d σ' own' h' tk' q ow' st' r' => k v d σ' own' h' tk' ?_ ow' st' r'⟩
  exact ⟨q.1, _, _, q.2, p⟩
theorem ini_end {dx : Addr} {fs : List (Str × V)} (e : σ = σ ∧ True) : XV c env n Γ (σ ++ [(dx, .attrs fs)]) (execs [] env) (RetP (IniR dx σ fs)) :=
  xs_nil ⟨_, _, .inr ⟨rfl, rfl⟩, List.Sublist.refl _, rfl, rfl⟩

theorem c_Name_init {dx : Addr} {t : Str} : FC c (n + 1) (.ref 180) [.raw 183 dx, .str t] (σ ++ [(dx, .attrs [])]) (IniR dx σ [("text", .str t)]) := by
  refine' fc_def ?ho ?hcd [Str.ofString "self", Str.ofString "text"] ?hb ?hl ?hx ?hkd ?hnd ?_ ?h1 ?h2 ?h3
  case ho => k_is
  case hcd => k_is
  case hl => rfl
  case hx => decide +kernel
  case hkd => kernel_rfl!
  case hnd => decide +kernel
  case h1 => rfl
  case h2 => rfl
  case h3 => rfl
  case hb =>
    intro s vs X hv
    obtain ⟨u0, u1, rfl⟩ := len2 hv
    first | exact BindsTo.of_eq rfl | exact kp_binds (K := HpK c.w.params) X (fun S => by kernel_rfl!)
  intro L
  refine xs_cons (x_self rfl ⟨by k_is, by k_is, by k_is, by k_is⟩ (ev_var rfl ⟨_, _, rfl, rfl, by simp, ?_⟩))
  exact ini_end ⟨rfl, trivial⟩
theorem c_Name {t : Str} (p : Φ (nameV t) σ) : FC c (n + 2) (.ref 183) [.str t] σ Φ :=
  fc_newI (fI := 180) (by k_is) (by k_is) (by k_is) (fun dx => c_Name_init) p
theorem c_Ref_init {dx : Addr} {i g : Int} : FC c (n + 1) (.ref 244) [.raw 254 dx, .int i, .int g] (σ ++ [(dx, .attrs [])]) (IniR dx σ [("number", .int i), ("generation", .int g)]) := by
  refine' fc_def ?ho ?hcd [Str.ofString "self", Str.ofString "number", Str.ofString "generation"] ?hb ?hl ?hx ?hkd ?hnd ?_ ?h1 ?h2 ?h3
  case ho => k_is
  case hcd => k_is
  case hl => rfl
  case hx => decide +kernel
  case hkd => kernel_rfl!
  case hnd => decide +kernel
  case h1 => rfl
  case h2 => rfl
  case h3 => rfl
  case hb =>
    intro s vs X hv
    obtain ⟨u0, u1, u2, rfl⟩ := len3 hv
    first | exact BindsTo.of_eq rfl | exact kp_binds (K := HpK c.w.params) X (fun S => by kernel_rfl!)
  intro L
  refine xs_cons (x_self rfl ⟨by k_is, by k_is, by k_is, by k_is⟩ (ev_var rfl ⟨_, _, rfl, rfl, by simp, ?_⟩))
  refine xs_cons (x_self rfl ⟨by k_is, by k_is, by k_is, by k_is⟩ (ev_var rfl ⟨_, _, rfl, rfl, by simp, ?_⟩))
  exact ini_end ⟨rfl, trivial⟩
theorem c_Ref {i g : Int} (p : Φ (refV i g) σ) : FC c (n + 2) (.ref 254) [.int i, .int g] σ Φ :=
  fc_newI (fI := 244) (by k_is) (by k_is) (by k_is) (fun dx => c_Ref_init) p
theorem c_Page_init {dx : Addr} {a b : V} : FC c (n + 1) (.ref 380) [.raw 383 dx, a, b] (σ ++ [(dx, .attrs [])]) (IniR dx σ [("reference", a), ("fields", b)]) := by
  refine' fc_def ?ho ?hcd [Str.ofString "self", Str.ofString "reference", Str.ofString "fields"] ?hb ?hl ?hx ?hkd ?hnd ?_ ?h1 ?h2 ?h3
  case ho => k_is
  case hcd => k_is
  case hl => rfl
  case hx => decide +kernel
  case hkd => kernel_rfl!
  case hnd => decide +kernel
  case h1 => rfl
  case h2 => rfl
  case h3 => rfl
  case hb =>
    intro s vs X hv
    obtain ⟨u0, u1, u2, rfl⟩ := len3 hv
    first | exact BindsTo.of_eq rfl | exact kp_binds (K := HpK c.w.params) X (fun S => by kernel_rfl!)
  intro L
  refine xs_cons (x_self rfl ⟨by k_is, by k_is, by k_is, by k_is⟩ (ev_var rfl ⟨_, _, rfl, rfl, by simp, ?_⟩))
  refine xs_cons (x_self rfl ⟨by k_is, by k_is, by k_is, by k_is⟩ (ev_var rfl ⟨_, _, rfl, rfl, by simp, ?_⟩))
  exact ini_end ⟨rfl, trivial⟩
noncomputable abbrev pageV (a b : V) : V := .inst 383 [("reference", a), ("fields", b)]
theorem c_Page {a b : V} (p : Φ (pageV a b) σ) : FC c (n + 2) (.ref 383) [a, b] σ Φ :=
  fc_newI (fI := 380) (by k_is) (by k_is) (by k_is) (fun dx => c_Page_init) p
theorem c_Spot_init {dx : Addr} {a b d e f : V} : FC c (n + 1) (.ref 401) [.raw 404 dx, a, b, d, e, f] (σ ++ [(dx, .attrs [])]) (IniR dx σ [("reference", a), ("head", b), ("above", d), ("inherited", e), ("is_page", f)]) := by
  refine' fc_def ?ho ?hcd [Str.ofString "self", Str.ofString "reference", Str.ofString "head", Str.ofString "above", Str.ofString "inherited", Str.ofString "is_page"] ?hb ?hl ?hx ?hkd ?hnd ?_ ?h1 ?h2 ?h3
  case ho => k_is
  case hcd => k_is
  case hl => rfl
  case hx => decide +kernel
  case hkd => kernel_rfl!
  case hnd => decide +kernel
  case h1 => rfl
  case h2 => rfl
  case h3 => rfl
  case hb =>
    intro s vs X hv
    obtain ⟨u0, u1, u2, u3, u4, u5, rfl⟩ := len6 hv
    first | exact BindsTo.of_eq rfl | exact kp_binds (K := HpK c.w.params) X (fun S => by kernel_rfl!)
  intro L
  refine xs_cons (x_self rfl ⟨by k_is, by k_is, by k_is, by k_is⟩ (ev_var rfl ⟨_, _, rfl, rfl, by simp, ?_⟩))
  refine xs_cons (x_self rfl ⟨by k_is, by k_is, by k_is, by k_is⟩ (ev_var rfl ⟨_, _, rfl, rfl, by simp, ?_⟩))
  refine xs_cons (x_self rfl ⟨by k_is, by k_is, by k_is, by k_is⟩ (ev_var rfl ⟨_, _, rfl, rfl, by simp, ?_⟩))
  refine xs_cons (x_self rfl ⟨by k_is, by k_is, by k_is, by k_is⟩ (ev_var rfl ⟨_, _, rfl, rfl, by simp, ?_⟩))
  refine xs_cons (x_self rfl ⟨by k_is, by k_is, by k_is, by k_is⟩ (ev_var rfl ⟨_, _, rfl, rfl, by simp, ?_⟩))
  exact ini_end ⟨rfl, trivial⟩
noncomputable abbrev spotV (a b d e f : V) : V := .inst 404 [("reference", a), ("head", b), ("above", d), ("inherited", e), ("is_page", f)]
theorem c_Spot {a b d e f : V} (p : Φ (spotV a b d e f) σ) : FC c (n + 2) (.ref 404) [a, b, d, e, f] σ Φ :=
  fc_newI (fI := 401) (by k_is) (by k_is) (by k_is) (fun dx => c_Spot_init) p
theorem c_Target_init {dx : Addr} {a b d : V} : FC c (n + 1) (.ref 540) [.raw 543 dx, a, b, d] (σ ++ [(dx, .attrs [])]) (IniR dx σ [("page", a), ("view", b), ("numbers", d)]) := by
  refine' fc_def ?ho ?hcd [Str.ofString "self", Str.ofString "page", Str.ofString "view", Str.ofString "numbers"] ?hb ?hl ?hx ?hkd ?hnd ?_ ?h1 ?h2 ?h3
  case ho => k_is
  case hcd => k_is
  case hl => rfl
  case hx => decide +kernel
  case hkd => kernel_rfl!
  case hnd => decide +kernel
  case h1 => rfl
  case h2 => rfl
  case h3 => rfl
  case hb =>
    intro s vs X hv
    obtain ⟨u0, u1, u2, u3, rfl⟩ := len4 hv
    first | exact BindsTo.of_eq rfl | exact kp_binds (K := HpK c.w.params) X (fun S => by kernel_rfl!)
  intro L
  refine xs_cons (x_self rfl ⟨by k_is, by k_is, by k_is, by k_is⟩ (ev_var rfl ⟨_, _, rfl, rfl, by simp, ?_⟩))
  refine xs_cons (x_self rfl ⟨by k_is, by k_is, by k_is, by k_is⟩ (ev_var rfl ⟨_, _, rfl, rfl, by simp, ?_⟩))
  refine xs_cons (x_self rfl ⟨by k_is, by k_is, by k_is, by k_is⟩ (ev_var rfl ⟨_, _, rfl, rfl, by simp, ?_⟩))
  exact ini_end ⟨rfl, trivial⟩
noncomputable abbrev targetV (a b d : V) : V := .inst 543 [("page", a), ("view", b), ("numbers", d)]
theorem c_Target {a b d : V} (p : Φ (targetV a b d) σ) : FC c (n + 2) (.ref 543) [a, b, d] σ Φ :=
  fc_newI (fI := 540) (by k_is) (by k_is) (by k_is) (fun dx => c_Target_init) p
theorem c_String_init {dx : Addr} {b : List UInt8} : FC c (n + 1) (.ref 202) [.raw 205 dx, .bytes b] (σ ++ [(dx, .attrs [])]) (IniR dx σ [("octets", .bytes b), ("is_hex", .bool false)]) := by
  refine' fc_defG ?ho ?hcd [Str.ofString "self", Str.ofString "octets", Str.ofString "is_hex"] [.bool false] [.bool false] (fun h => .cons (.bool _) .nil) ?hb ?hl ?hx ?hkd ?hnd ?_ ?h1 ?h2 ?h3
  case ho => k_is
  case hcd => k_is
  case hl => rfl
  case hx => decide +kernel
  case hkd => kernel_rfl!
  case hnd => decide +kernel
  case h1 => rfl
  case h2 => rfl
  case h3 => rfl
  case hb =>
    intro s vs X hv
    obtain ⟨u0, u1, rfl⟩ := len2 hv
    exact kp_binds (K := HpK c.w.params) X (fun S => by kernel_rfl!)
  intro L
  refine xs_cons (x_self rfl ⟨by k_is, by k_is, by k_is, by k_is⟩ (ev_var rfl ⟨_, _, rfl, rfl, by simp, ?_⟩))
  refine xs_cons (x_self rfl ⟨by k_is, by k_is, by k_is, by k_is⟩ (ev_var rfl ⟨_, _, rfl, rfl, by simp, ?_⟩))
  exact ini_end ⟨rfl, trivial⟩
theorem c_String {b : List UInt8} (p : Φ (stringV b) σ) : FC c (n + 2) (.ref 205) [.bytes b] σ Φ :=
  fc_newI (fI := 202) (by k_is) (by k_is) (by k_is) (fun dx => c_String_init) p
end
end Mine
end

section
open PySem PySem.W PyProof.Rows PySem.Calls PySem.Spec
set_option maxRecDepth 100000
namespace Mine
section
variable {c : Cx} {env : Env} {n : Nat} {Γ : Gm} {σ : St} {Φ : V → St → Prop} {Ψ : Fl → Gm → St → Prop}
theorem clsOk_dec {w : World} : ClsOk w 155 := ⟨by k_is, by k_is, by k_is, by k_is, by k_is, by k_is⟩
theorem clsOk_name {w : World} : ClsOk w 183 := ⟨by k_is, by k_is, by k_is, by k_is, by k_is, by k_is⟩
theorem clsOk_string {w : World} : ClsOk w 205 := ⟨by k_is, by k_is, by k_is, by k_is, by k_is, by k_is⟩
theorem clsOk_ref {w : World} : ClsOk w 254 := ⟨by k_is, by k_is, by k_is, by k_is, by k_is, by k_is⟩

-- a test of a class by its name
theorem tv_isiB {x : Str} {b : Bool} {d : V} {T : String} {p1 p2 p3 pos : Pos} {y : Str} {whole : Sem Value} {Φ : Bool → St → Prop} (hi : nsIn (HpK c.w.params) mainGlobals "isinstance" = some none) (hk : env.kindOf "isinstance" = some .globalImplicit) (hy : nsIn (HpK c.w.params) mainGlobals y = some none) (hy2 : bootBuiltins y = some (.type T)) (hy3 : env.kindOf y = some .globalImplicit)
    (hv : Γ.lookup x = some d) (hc : clsOk c.w d) (e : kitOne (HpK c.w.params) (typ d) (.type T) = some b) (p : Φ b σ)
    (hd1 : (x == ("__debug__" : Str)) = false := by decide) (hn1 : (x == ("__classdict__" : Str)) = false := by decide) (hn : y ≠ "__name__" := by decide) (hd2 : (y == ("__debug__" : Str)) = false := by decide) :
    EV c env n Γ σ (eval (.Call (.Name "isinstance" p1) [.Name x p2, .Name y p3] [] pos) env) fun d σ₁ => T1 c n d σ₁ Φ :=
  ev_callB hi rfl hk (lv_cons (ev_var hv (lv_cons (ev_bi hy hy2 hy3 (lv_nil (cv_isi hc e (t1_bool p))) rfl hn hd2)) hd1 hn1))
theorem tv_isiG {x : Str} {b : Bool} {d : V} {C : Addr} {p1 p2 p3 pos : Pos} {y : Str} {whole : Sem Value} {Φ : Bool → St → Prop} (hi : nsIn (HpK c.w.params) mainGlobals "isinstance" = some none) (hk : env.kindOf "isinstance" = some .globalImplicit) (hy : nsIn (HpK c.w.params) mainGlobals y = some (some (.ref C))) (hy3 : env.kindOf y = some .globalImplicit)
    (hv : Γ.lookup x = some d) (hc : clsOk c.w d) (e : kitOne (HpK c.w.params) (typ d) (.ref C) = some b) (p : Φ b σ)
    (hd1 : (x == ("__debug__" : Str)) = false := by decide) (hn1 : (x == ("__classdict__" : Str)) = false := by decide) (hd2 : (y == ("__debug__" : Str)) = false := by decide) :
    EV c env n Γ σ (eval (.Call (.Name "isinstance" p1) [.Name x p2, .Name y p3] [] pos) env) fun d σ₁ => T1 c n d σ₁ Φ :=
  ev_callB hi rfl hk (lv_cons (ev_var hv (lv_cons (ev_glob hy hy3 (lv_nil (cv_isi hc e (t1_bool p))) rfl hd2)) hd1 hn1))

theorem c_kind_none (p : Φ (.str "null") σ) : FC c (n + 1) (.ref 265) [V.none] σ Φ := by
  refine' fc_def ?ho ?hcd [Str.ofString "value"] ?hb ?hl ?hx ?hkd ?hnd ?_ ?h1 ?h2 ?h3
  case ho => k_is
  case hcd => k_is
  case hl => rfl
  case hx => decide +kernel
  case hkd => kernel_rfl!
  case hnd => decide +kernel
  case h1 => rfl
  case h2 => rfl
  case h3 => rfl
  case hb =>
    intro s vs X hv
    obtain ⟨u0, rfl⟩ := len1 hv
    first | exact BindsTo.of_eq rfl | exact kp_binds (K := HpK c.w.params) X (fun S => by kernel_rfl!)
  intro L
  refine xs_cons (x_if (tv_cmp (ev_var rfl (ev_none (p2_is rfl ⟨_, rfl, ?_⟩)))))
  exact xs_cons (x_ret (ev_str (ret_ok p)))
theorem c_kind_bool {b : Bool} (p : Φ (.str "truth") σ) : FC c (n + 1) (.ref 265) [V.bool b] σ Φ := by
  refine' fc_def ?ho ?hcd [Str.ofString "value"] ?hb ?hl ?hx ?hkd ?hnd ?_ ?h1 ?h2 ?h3
  case ho => k_is
  case hcd => k_is
  case hl => rfl
  case hx => decide +kernel
  case hkd => kernel_rfl!
  case hnd => decide +kernel
  case h1 => rfl
  case h2 => rfl
  case h3 => rfl
  case hb =>
    intro s vs X hv
    obtain ⟨u0, rfl⟩ := len1 hv
    first | exact BindsTo.of_eq rfl | exact kp_binds (K := HpK c.w.params) X (fun S => by kernel_rfl!)
  intro L
  refine xs_cons (x_if (tv_cmp (ev_var rfl (ev_none (p2_is rfl ⟨_, rfl, ?_⟩)))))
  refine xs_nil ?_
  refine' xs_cons (x_if (tv_plain (tv_isiB (whole := pure .none) (by k_is) (by kernel_rfl!) (by k_is) rfl (by kernel_rfl!) rfl ?hc ?he ?_)))
  case hc => first | exact trivial | exact clsOk_dec | exact clsOk_name | exact clsOk_string | exact clsOk_ref
  case he => dsimp only [typ]; kit_is
  exact xs_cons (x_ret (ev_str (ret_ok p)))
theorem c_kind_int {i : Int} (p : Φ (.str "int") σ) : FC c (n + 1) (.ref 265) [V.int i] σ Φ := by
  refine' fc_def ?ho ?hcd [Str.ofString "value"] ?hb ?hl ?hx ?hkd ?hnd ?_ ?h1 ?h2 ?h3
  case ho => k_is
  case hcd => k_is
  case hl => rfl
  case hx => decide +kernel
  case hkd => kernel_rfl!
  case hnd => decide +kernel
  case h1 => rfl
  case h2 => rfl
  case h3 => rfl
  case hb =>
    intro s vs X hv
    obtain ⟨u0, rfl⟩ := len1 hv
    first | exact BindsTo.of_eq rfl | exact kp_binds (K := HpK c.w.params) X (fun S => by kernel_rfl!)
  intro L
  refine xs_cons (x_if (tv_cmp (ev_var rfl (ev_none (p2_is rfl ⟨_, rfl, ?_⟩)))))
  refine xs_nil ?_
  refine' xs_cons (x_if (tv_plain (tv_isiB (whole := pure .none) (by k_is) (by kernel_rfl!) (by k_is) rfl (by kernel_rfl!) rfl ?hc ?he ?_)))
  case hc => first | exact trivial | exact clsOk_dec | exact clsOk_name | exact clsOk_string | exact clsOk_ref
  case he => dsimp only [typ]; kit_is
  refine xs_nil ?_
  refine' xs_cons (x_if (tv_plain (tv_isiB (whole := pure .none) (by k_is) (by kernel_rfl!) (by k_is) rfl (by kernel_rfl!) rfl ?hc ?he ?_)))
  case hc => first | exact trivial | exact clsOk_dec | exact clsOk_name | exact clsOk_string | exact clsOk_ref
  case he => dsimp only [typ]; kit_is
  exact xs_cons (x_ret (ev_str (ret_ok p)))
theorem c_kind_dec (p : Φ (.str "real") σ) : FC c (n + 1) (.ref 265) [decV] σ Φ := by
  refine' fc_def ?ho ?hcd [Str.ofString "value"] ?hb ?hl ?hx ?hkd ?hnd ?_ ?h1 ?h2 ?h3
  case ho => k_is
  case hcd => k_is
  case hl => rfl
  case hx => decide +kernel
  case hkd => kernel_rfl!
  case hnd => decide +kernel
  case h1 => rfl
  case h2 => rfl
  case h3 => rfl
  case hb =>
    intro s vs X hv
    obtain ⟨u0, rfl⟩ := len1 hv
    first | exact BindsTo.of_eq rfl | exact kp_binds (K := HpK c.w.params) X (fun S => by kernel_rfl!)
  intro L
  refine xs_cons (x_if (tv_cmp (ev_var rfl (ev_none (p2_is rfl ⟨_, rfl, ?_⟩)))))
  refine xs_nil ?_
  refine' xs_cons (x_if (tv_plain (tv_isiB (whole := pure .none) (by k_is) (by kernel_rfl!) (by k_is) rfl (by kernel_rfl!) rfl ?hc ?he ?_)))
  case hc => first | exact trivial | exact clsOk_dec | exact clsOk_name | exact clsOk_string | exact clsOk_ref
  case he => dsimp only [typ]; kit_is
  refine xs_nil ?_
  refine' xs_cons (x_if (tv_plain (tv_isiB (whole := pure .none) (by k_is) (by kernel_rfl!) (by k_is) rfl (by kernel_rfl!) rfl ?hc ?he ?_)))
  case hc => first | exact trivial | exact clsOk_dec | exact clsOk_name | exact clsOk_string | exact clsOk_ref
  case he => dsimp only [typ]; kit_is
  refine xs_nil ?_
  refine' xs_cons (x_if (tv_plain (tv_isiG (whole := pure .none) (by k_is) (by kernel_rfl!) (by k_is) (by kernel_rfl!) rfl ?hc ?he ?_)))
  case hc => first | exact trivial | exact clsOk_dec | exact clsOk_name | exact clsOk_string | exact clsOk_ref
  case he => dsimp only [typ]; kit_is
  exact xs_cons (x_ret (ev_str (ret_ok p)))
theorem c_kind_name {t : Str} (p : Φ (.str "name") σ) : FC c (n + 1) (.ref 265) [nameV t] σ Φ := by
  refine' fc_def ?ho ?hcd [Str.ofString "value"] ?hb ?hl ?hx ?hkd ?hnd ?_ ?h1 ?h2 ?h3
  case ho => k_is
  case hcd => k_is
  case hl => rfl
  case hx => decide +kernel
  case hkd => kernel_rfl!
  case hnd => decide +kernel
  case h1 => rfl
  case h2 => rfl
  case h3 => rfl
  case hb =>
    intro s vs X hv
    obtain ⟨u0, rfl⟩ := len1 hv
    first | exact BindsTo.of_eq rfl | exact kp_binds (K := HpK c.w.params) X (fun S => by kernel_rfl!)
  intro L
  refine xs_cons (x_if (tv_cmp (ev_var rfl (ev_none (p2_is rfl ⟨_, rfl, ?_⟩)))))
  refine xs_nil ?_
  refine' xs_cons (x_if (tv_plain (tv_isiB (whole := pure .none) (by k_is) (by kernel_rfl!) (by k_is) rfl (by kernel_rfl!) rfl ?hc ?he ?_)))
  case hc => first | exact trivial | exact clsOk_dec | exact clsOk_name | exact clsOk_string | exact clsOk_ref
  case he => dsimp only [typ]; kit_is
  refine xs_nil ?_
  refine' xs_cons (x_if (tv_plain (tv_isiB (whole := pure .none) (by k_is) (by kernel_rfl!) (by k_is) rfl (by kernel_rfl!) rfl ?hc ?he ?_)))
  case hc => first | exact trivial | exact clsOk_dec | exact clsOk_name | exact clsOk_string | exact clsOk_ref
  case he => dsimp only [typ]; kit_is
  refine xs_nil ?_
  refine' xs_cons (x_if (tv_plain (tv_isiG (whole := pure .none) (by k_is) (by kernel_rfl!) (by k_is) (by kernel_rfl!) rfl ?hc ?he ?_)))
  case hc => first | exact trivial | exact clsOk_dec | exact clsOk_name | exact clsOk_string | exact clsOk_ref
  case he => dsimp only [typ]; kit_is
  refine xs_nil ?_
  refine' xs_cons (x_if (tv_plain (tv_isiG (whole := pure .none) (by k_is) (by kernel_rfl!) (by k_is) (by kernel_rfl!) rfl ?hc ?he ?_)))
  case hc => first | exact trivial | exact clsOk_dec | exact clsOk_name | exact clsOk_string | exact clsOk_ref
  case he => dsimp only [typ]; kit_is
  exact xs_cons (x_ret (ev_str (ret_ok p)))
theorem c_kind_string {b : List UInt8} (p : Φ (.str "string") σ) : FC c (n + 1) (.ref 265) [stringV b] σ Φ := by
  refine' fc_def ?ho ?hcd [Str.ofString "value"] ?hb ?hl ?hx ?hkd ?hnd ?_ ?h1 ?h2 ?h3
  case ho => k_is
  case hcd => k_is
  case hl => rfl
  case hx => decide +kernel
  case hkd => kernel_rfl!
  case hnd => decide +kernel
  case h1 => rfl
  case h2 => rfl
  case h3 => rfl
  case hb =>
    intro s vs X hv
    obtain ⟨u0, rfl⟩ := len1 hv
    first | exact BindsTo.of_eq rfl | exact kp_binds (K := HpK c.w.params) X (fun S => by kernel_rfl!)
  intro L
  refine xs_cons (x_if (tv_cmp (ev_var rfl (ev_none (p2_is rfl ⟨_, rfl, ?_⟩)))))
  refine xs_nil ?_
  refine' xs_cons (x_if (tv_plain (tv_isiB (whole := pure .none) (by k_is) (by kernel_rfl!) (by k_is) rfl (by kernel_rfl!) rfl ?hc ?he ?_)))
  case hc => first | exact trivial | exact clsOk_dec | exact clsOk_name | exact clsOk_string | exact clsOk_ref
  case he => dsimp only [typ]; kit_is
  refine xs_nil ?_
  refine' xs_cons (x_if (tv_plain (tv_isiB (whole := pure .none) (by k_is) (by kernel_rfl!) (by k_is) rfl (by kernel_rfl!) rfl ?hc ?he ?_)))
  case hc => first | exact trivial | exact clsOk_dec | exact clsOk_name | exact clsOk_string | exact clsOk_ref
  case he => dsimp only [typ]; kit_is
  refine xs_nil ?_
  refine' xs_cons (x_if (tv_plain (tv_isiG (whole := pure .none) (by k_is) (by kernel_rfl!) (by k_is) (by kernel_rfl!) rfl ?hc ?he ?_)))
  case hc => first | exact trivial | exact clsOk_dec | exact clsOk_name | exact clsOk_string | exact clsOk_ref
  case he => dsimp only [typ]; kit_is
  refine xs_nil ?_
  refine' xs_cons (x_if (tv_plain (tv_isiG (whole := pure .none) (by k_is) (by kernel_rfl!) (by k_is) (by kernel_rfl!) rfl ?hc ?he ?_)))
  case hc => first | exact trivial | exact clsOk_dec | exact clsOk_name | exact clsOk_string | exact clsOk_ref
  case he => dsimp only [typ]; kit_is
  refine xs_nil ?_
  refine' xs_cons (x_if (tv_plain (tv_isiG (whole := pure .none) (by k_is) (by kernel_rfl!) (by k_is) (by kernel_rfl!) rfl ?hc ?he ?_)))
  case hc => first | exact trivial | exact clsOk_dec | exact clsOk_name | exact clsOk_string | exact clsOk_ref
  case he => dsimp only [typ]; kit_is
  exact xs_cons (x_ret (ev_str (ret_ok p)))
theorem c_kind_list {ds : List V} (p : Φ (.str "array") σ) : FC c (n + 1) (.ref 265) [V.list ds] σ Φ := by
  refine' fc_def ?ho ?hcd [Str.ofString "value"] ?hb ?hl ?hx ?hkd ?hnd ?_ ?h1 ?h2 ?h3
  case ho => k_is
  case hcd => k_is
  case hl => rfl
  case hx => decide +kernel
  case hkd => kernel_rfl!
  case hnd => decide +kernel
  case h1 => rfl
  case h2 => rfl
  case h3 => rfl
  case hb =>
    intro s vs X hv
    obtain ⟨u0, rfl⟩ := len1 hv
    first | exact BindsTo.of_eq rfl | exact kp_binds (K := HpK c.w.params) X (fun S => by kernel_rfl!)
  intro L
  refine xs_cons (x_if (tv_cmp (ev_var rfl (ev_none (p2_is rfl ⟨_, rfl, ?_⟩)))))
  refine xs_nil ?_
  refine' xs_cons (x_if (tv_plain (tv_isiB (whole := pure .none) (by k_is) (by kernel_rfl!) (by k_is) rfl (by kernel_rfl!) rfl ?hc ?he ?_)))
  case hc => first | exact trivial | exact clsOk_dec | exact clsOk_name | exact clsOk_string | exact clsOk_ref
  case he => dsimp only [typ]; kit_is
  refine xs_nil ?_
  refine' xs_cons (x_if (tv_plain (tv_isiB (whole := pure .none) (by k_is) (by kernel_rfl!) (by k_is) rfl (by kernel_rfl!) rfl ?hc ?he ?_)))
  case hc => first | exact trivial | exact clsOk_dec | exact clsOk_name | exact clsOk_string | exact clsOk_ref
  case he => dsimp only [typ]; kit_is
  refine xs_nil ?_
  refine' xs_cons (x_if (tv_plain (tv_isiG (whole := pure .none) (by k_is) (by kernel_rfl!) (by k_is) (by kernel_rfl!) rfl ?hc ?he ?_)))
  case hc => first | exact trivial | exact clsOk_dec | exact clsOk_name | exact clsOk_string | exact clsOk_ref
  case he => dsimp only [typ]; kit_is
  refine xs_nil ?_
  refine' xs_cons (x_if (tv_plain (tv_isiG (whole := pure .none) (by k_is) (by kernel_rfl!) (by k_is) (by kernel_rfl!) rfl ?hc ?he ?_)))
  case hc => first | exact trivial | exact clsOk_dec | exact clsOk_name | exact clsOk_string | exact clsOk_ref
  case he => dsimp only [typ]; kit_is
  refine xs_nil ?_
  refine' xs_cons (x_if (tv_plain (tv_isiG (whole := pure .none) (by k_is) (by kernel_rfl!) (by k_is) (by kernel_rfl!) rfl ?hc ?he ?_)))
  case hc => first | exact trivial | exact clsOk_dec | exact clsOk_name | exact clsOk_string | exact clsOk_ref
  case he => dsimp only [typ]; kit_is
  refine xs_nil ?_
  refine' xs_cons (x_if (tv_plain (tv_isiB (whole := pure .none) (by k_is) (by kernel_rfl!) (by k_is) rfl (by kernel_rfl!) rfl ?hc ?he ?_)))
  case hc => first | exact trivial | exact clsOk_dec | exact clsOk_name | exact clsOk_string | exact clsOk_ref
  case he => dsimp only [typ]; kit_is
  exact xs_cons (x_ret (ev_str (ret_ok p)))
theorem c_kind_dict {es : List (Str × V)} (p : Φ (.str "dict") σ) : FC c (n + 1) (.ref 265) [V.ds es] σ Φ := by
  refine' fc_def ?ho ?hcd [Str.ofString "value"] ?hb ?hl ?hx ?hkd ?hnd ?_ ?h1 ?h2 ?h3
  case ho => k_is
  case hcd => k_is
  case hl => rfl
  case hx => decide +kernel
  case hkd => kernel_rfl!
  case hnd => decide +kernel
  case h1 => rfl
  case h2 => rfl
  case h3 => rfl
  case hb =>
    intro s vs X hv
    obtain ⟨u0, rfl⟩ := len1 hv
    first | exact BindsTo.of_eq rfl | exact kp_binds (K := HpK c.w.params) X (fun S => by kernel_rfl!)
  intro L
  refine xs_cons (x_if (tv_cmp (ev_var rfl (ev_none (p2_is rfl ⟨_, rfl, ?_⟩)))))
  refine xs_nil ?_
  refine' xs_cons (x_if (tv_plain (tv_isiB (whole := pure .none) (by k_is) (by kernel_rfl!) (by k_is) rfl (by kernel_rfl!) rfl ?hc ?he ?_)))
  case hc => first | exact trivial | exact clsOk_dec | exact clsOk_name | exact clsOk_string | exact clsOk_ref
  case he => dsimp only [typ]; kit_is
  refine xs_nil ?_
  refine' xs_cons (x_if (tv_plain (tv_isiB (whole := pure .none) (by k_is) (by kernel_rfl!) (by k_is) rfl (by kernel_rfl!) rfl ?hc ?he ?_)))
  case hc => first | exact trivial | exact clsOk_dec | exact clsOk_name | exact clsOk_string | exact clsOk_ref
  case he => dsimp only [typ]; kit_is
  refine xs_nil ?_
  refine' xs_cons (x_if (tv_plain (tv_isiG (whole := pure .none) (by k_is) (by kernel_rfl!) (by k_is) (by kernel_rfl!) rfl ?hc ?he ?_)))
  case hc => first | exact trivial | exact clsOk_dec | exact clsOk_name | exact clsOk_string | exact clsOk_ref
  case he => dsimp only [typ]; kit_is
  refine xs_nil ?_
  refine' xs_cons (x_if (tv_plain (tv_isiG (whole := pure .none) (by k_is) (by kernel_rfl!) (by k_is) (by kernel_rfl!) rfl ?hc ?he ?_)))
  case hc => first | exact trivial | exact clsOk_dec | exact clsOk_name | exact clsOk_string | exact clsOk_ref
  case he => dsimp only [typ]; kit_is
  refine xs_nil ?_
  refine' xs_cons (x_if (tv_plain (tv_isiG (whole := pure .none) (by k_is) (by kernel_rfl!) (by k_is) (by kernel_rfl!) rfl ?hc ?he ?_)))
  case hc => first | exact trivial | exact clsOk_dec | exact clsOk_name | exact clsOk_string | exact clsOk_ref
  case he => dsimp only [typ]; kit_is
  refine xs_nil ?_
  refine' xs_cons (x_if (tv_plain (tv_isiB (whole := pure .none) (by k_is) (by kernel_rfl!) (by k_is) rfl (by kernel_rfl!) rfl ?hc ?he ?_)))
  case hc => first | exact trivial | exact clsOk_dec | exact clsOk_name | exact clsOk_string | exact clsOk_ref
  case he => dsimp only [typ]; kit_is
  refine xs_nil ?_
  refine' xs_cons (x_if (tv_plain (tv_isiB (whole := pure .none) (by k_is) (by kernel_rfl!) (by k_is) rfl (by kernel_rfl!) rfl ?hc ?he ?_)))
  case hc => first | exact trivial | exact clsOk_dec | exact clsOk_name | exact clsOk_string | exact clsOk_ref
  case he => dsimp only [typ]; kit_is
  exact xs_cons (x_ret (ev_str (ret_ok p)))
theorem c_kind_ref {i g : Int} (p : Φ (.str "ref") σ) : FC c (n + 1) (.ref 265) [refV i g] σ Φ := by
  refine' fc_def ?ho ?hcd [Str.ofString "value"] ?hb ?hl ?hx ?hkd ?hnd ?_ ?h1 ?h2 ?h3
  case ho => k_is
  case hcd => k_is
  case hl => rfl
  case hx => decide +kernel
  case hkd => kernel_rfl!
  case hnd => decide +kernel
  case h1 => rfl
  case h2 => rfl
  case h3 => rfl
  case hb =>
    intro s vs X hv
    obtain ⟨u0, rfl⟩ := len1 hv
    first | exact BindsTo.of_eq rfl | exact kp_binds (K := HpK c.w.params) X (fun S => by kernel_rfl!)
  intro L
  refine xs_cons (x_if (tv_cmp (ev_var rfl (ev_none (p2_is rfl ⟨_, rfl, ?_⟩)))))
  refine xs_nil ?_
  refine' xs_cons (x_if (tv_plain (tv_isiB (whole := pure .none) (by k_is) (by kernel_rfl!) (by k_is) rfl (by kernel_rfl!) rfl ?hc ?he ?_)))
  case hc => first | exact trivial | exact clsOk_dec | exact clsOk_name | exact clsOk_string | exact clsOk_ref
  case he => dsimp only [typ]; kit_is
  refine xs_nil ?_
  refine' xs_cons (x_if (tv_plain (tv_isiB (whole := pure .none) (by k_is) (by kernel_rfl!) (by k_is) rfl (by kernel_rfl!) rfl ?hc ?he ?_)))
  case hc => first | exact trivial | exact clsOk_dec | exact clsOk_name | exact clsOk_string | exact clsOk_ref
  case he => dsimp only [typ]; kit_is
  refine xs_nil ?_
  refine' xs_cons (x_if (tv_plain (tv_isiG (whole := pure .none) (by k_is) (by kernel_rfl!) (by k_is) (by kernel_rfl!) rfl ?hc ?he ?_)))
  case hc => first | exact trivial | exact clsOk_dec | exact clsOk_name | exact clsOk_string | exact clsOk_ref
  case he => dsimp only [typ]; kit_is
  refine xs_nil ?_
  refine' xs_cons (x_if (tv_plain (tv_isiG (whole := pure .none) (by k_is) (by kernel_rfl!) (by k_is) (by kernel_rfl!) rfl ?hc ?he ?_)))
  case hc => first | exact trivial | exact clsOk_dec | exact clsOk_name | exact clsOk_string | exact clsOk_ref
  case he => dsimp only [typ]; kit_is
  refine xs_nil ?_
  refine' xs_cons (x_if (tv_plain (tv_isiG (whole := pure .none) (by k_is) (by kernel_rfl!) (by k_is) (by kernel_rfl!) rfl ?hc ?he ?_)))
  case hc => first | exact trivial | exact clsOk_dec | exact clsOk_name | exact clsOk_string | exact clsOk_ref
  case he => dsimp only [typ]; kit_is
  refine xs_nil ?_
  refine' xs_cons (x_if (tv_plain (tv_isiB (whole := pure .none) (by k_is) (by kernel_rfl!) (by k_is) rfl (by kernel_rfl!) rfl ?hc ?he ?_)))
  case hc => first | exact trivial | exact clsOk_dec | exact clsOk_name | exact clsOk_string | exact clsOk_ref
  case he => dsimp only [typ]; kit_is
  refine xs_nil ?_
  refine' xs_cons (x_if (tv_plain (tv_isiB (whole := pure .none) (by k_is) (by kernel_rfl!) (by k_is) rfl (by kernel_rfl!) rfl ?hc ?he ?_)))
  case hc => first | exact trivial | exact clsOk_dec | exact clsOk_name | exact clsOk_string | exact clsOk_ref
  case he => dsimp only [typ]; kit_is
  refine xs_nil ?_
  refine' xs_cons (x_if (tv_plain (tv_isiG (whole := pure .none) (by k_is) (by kernel_rfl!) (by k_is) (by kernel_rfl!) rfl ?hc ?he ?_)))
  case hc => first | exact trivial | exact clsOk_dec | exact clsOk_name | exact clsOk_string | exact clsOk_ref
  case he => dsimp only [typ]; kit_is
  refine xs_nil ?_
  refine' xs_cons (x_if (tv_plain (tv_isiG (whole := pure .none) (by k_is) (by kernel_rfl!) (by k_is) (by kernel_rfl!) rfl ?hc ?he ?_)))
  case hc => first | exact trivial | exact clsOk_dec | exact clsOk_name | exact clsOk_string | exact clsOk_ref
  case he => dsimp only [typ]; kit_is
  exact xs_cons (x_ret (ev_str (ret_ok p)))

/-- the data that a tree of the paper holds, by depth -/
inductive Tree : Nat → V → Prop
  | none {m : Nat} : Tree m .none
  | bool {m : Nat} (b : Bool) : Tree m (.bool b)
  | int {m : Nat} (i : Int) : Tree m (.int i)
  | dec {m : Nat} : Tree m decV
  | name {m : Nat} (t : Str) : Tree m (nameV t)
  | string {m : Nat} (b : List UInt8) : Tree m (stringV b)
  | ref {m : Nat} (i g : Int) : Tree m (refV i g)
  | list {m : Nat} (ds : List V) : ds.length ≤ 1000 → ds ≠ [] → (∀ d ∈ ds, Tree m d) → Tree (m + 1) (.list ds)
  | dict {m : Nat} (es : List (Str × V)) : es.length ≤ 20 → es ≠ [] → (es.map (·.1)).Nodup → (∀ p ∈ es, p.2 ≠ V.none) → (∀ p ∈ es, Tree m p.2) → Tree (m + 1) (.ds es)
noncomputable def kindV : V → Str
  | .none => "null"
  | .bool _ => "truth"
  | .int _ => "int"
  | .list _ => "array"
  | .ds _ => "dict"
  | .inst C _ => if C = 155 then "real" else if C = 183 then "name" else if C = 205 then "string" else "ref"
  | _ => ""
theorem c_kind {m : Nat} {d : V} (hd : Tree m d) (p : Φ (.str (kindV d)) σ) : FC c (n + 1) (.ref 265) [d] σ Φ := by
  cases hd with
  | none => exact c_kind_none p
  | bool => exact c_kind_bool p
  | int => exact c_kind_int p
  | dec => exact c_kind_dec p
  | name => exact c_kind_name p
  | string => exact c_kind_string p
  | ref => exact c_kind_ref p
  | list => exact c_kind_list p
  | dict => exact c_kind_dict p
end
end Mine
end

section
open PySem PySem.W PyProof.Rows PySem.Calls PySem.Spec
set_option maxRecDepth 100000
namespace Mine
section
variable {c : Cx} {env : Env} {n : Nat} {Γ : Gm} {σ : St} {Φ : V → St → Prop} {Ψ : Fl → Gm → St → Prop}
theorem p2_eqSd {a b : Str} {r : Bool} (e : (a == b) = r) (p : Φ (.bool r) σ) : P2 c n (.str a) (.str b) σ (compareOp .Eq) Φ := p2_eqS (by rw [e]; exact p)
theorem p2_neSd {a b : Str} {r : Bool} (e : (a == b) = r) (p : Φ (.bool (!r)) σ) : P2 c n (.str a) (.str b) σ (compareOp .NotEq) Φ := p2_neS (by rw [e]; exact p)
-- an attribute of an own object, by the name of the variable
theorem ev_va {x attr : Str} {p pos : Pos} {C : Addr} {fs : List (Str × V)} {d : V} {at_ : Option Value} (hv : Γ.lookup x = some (.inst C fs)) (hl : fs.lookup attr = some d) (hg : plainGet (HpK c.w.params) C attr = true) (hh : hasDictIn (HpK c.w.params) C = true)
    (ha : findIn (HpK c.w.params) (.ref C) attr = some at_) (hn : noGet (HpK c.w.params) at_ = true) (q : Φ d σ)
    (he : eval (.Attribute (.Name x p) attr pos) env = (do
      let o ← eval (.Name x p) env
      standAt pos.atName
      let r ← holding [o] (getAttr o attr true)
      letTemporaryGo (.Name x p) o r
      pure r) := by with_unfolding_all rfl) (hd1 : (x == ("__debug__" : Str)) = false := by decide) (hn1 : (x == ("__classdict__" : Str)) = false := by decide) : EV c env n Γ σ (eval (.Attribute (.Name x p) attr pos) env) Φ :=
  ev_attr (ev_var hv (p1_attr hl hg hh ha hn q) hd1 hn1) he

theorem c_pair {i g : Int} (p : Φ (.tup [.int i, .int g]) σ) : FC c (n + 1) (.ref 251) [refV i g] σ Φ := by
  refine' fc_def ?ho ?hcd [Str.ofString "self"] ?hb ?hl ?hx ?hkd ?hnd ?_ ?h1 ?h2 ?h3
  case ho => k_is
  case hcd => k_is
  case hl => rfl
  case hx => decide +kernel
  case hkd => kernel_rfl!
  case hnd => decide +kernel
  case h1 => rfl
  case h2 => rfl
  case h3 => rfl
  case hb =>
    intro s vs X hv
    obtain ⟨u0, rfl⟩ := len1 hv
    first | exact BindsTo.of_eq rfl | exact kp_binds (K := HpK c.w.params) X (fun S => by kernel_rfl!)
  intro L
  refine xs_cons (x_ret (ev_tup (lv_cons (ev_va rfl rfl (by k_is) (by k_is) (by k_is) (by k_is) (lv_cons (ev_va rfl rfl (by k_is) (by k_is) (by k_is) (by k_is) (lv_nil ⟨?_, ?_⟩)))))))
  · rw [sizeLine_eq]; simp
  · exact (ret_ok p)

theorem c_tp_none (p : Φ (.tup [.str "null"]) σ) : FC c (n + 1) (.ref 272) [.str "null", V.none] σ Φ := by
  refine' fc_def ?ho ?hcd [Str.ofString "kind", Str.ofString "value"] ?hb ?hl ?hx ?hkd ?hnd ?_ ?h1 ?h2 ?h3
  case ho => k_is
  case hcd => k_is
  case hl => rfl
  case hx => decide +kernel
  case hkd => kernel_rfl!
  case hnd => decide +kernel
  case h1 => rfl
  case h2 => rfl
  case h3 => rfl
  case hb =>
    intro s vs X hv
    obtain ⟨u0, u1, rfl⟩ := len2 hv
    first | exact BindsTo.of_eq rfl | exact kp_binds (K := HpK c.w.params) X (fun S => by kernel_rfl!)
  intro L
  refine xs_cons (x_if (tv_cmp (ev_var rfl (ev_str (p2_eqSd (r := true) (by decide +kernel) ⟨_, rfl, ?_⟩)))))
  refine xs_cons (x_ret (ev_tup (lv_cons (ev_str (lv_nil ⟨?_, ?_⟩)))))
  · rw [sizeLine_eq]; simp
  · exact (ret_ok p)
theorem c_tp_bool {b : Bool} (p : Φ (.tup [.str "truth", .int (if b then 1 else 0)]) σ) : FC c (n + 1) (.ref 272) [.str "truth", V.bool b] σ Φ := by
  refine' fc_def ?ho ?hcd [Str.ofString "kind", Str.ofString "value"] ?hb ?hl ?hx ?hkd ?hnd ?_ ?h1 ?h2 ?h3
  case ho => k_is
  case hcd => k_is
  case hl => rfl
  case hx => decide +kernel
  case hkd => kernel_rfl!
  case hnd => decide +kernel
  case h1 => rfl
  case h2 => rfl
  case h3 => rfl
  case hb =>
    intro s vs X hv
    obtain ⟨u0, u1, rfl⟩ := len2 hv
    first | exact BindsTo.of_eq rfl | exact kp_binds (K := HpK c.w.params) X (fun S => by kernel_rfl!)
  intro L
  refine xs_cons (x_if (tv_cmp (ev_var rfl (ev_str (p2_eqSd (r := false) (by decide +kernel) ⟨_, rfl, ?_⟩)))))
  refine xs_nil ?_
  refine xs_cons (x_if (tv_cmp (ev_var rfl (ev_str (p2_eqSd (r := true) (by decide +kernel) ⟨_, rfl, ?_⟩)))))
  refine xs_cons (x_ret (ev_tup (lv_cons (ev_str (lv_cons (ev_ifexp (tv_plain (ev_var rfl (t1_bool ?_)))))))))
  cases b with
  | true =>
    rw [if_pos rfl]
    refine ev_int (lv_nil ⟨?_, ?_⟩)
    · rw [sizeLine_eq]; simp
    · exact (ret_ok p)
  | false =>
    rw [if_neg Bool.false_ne_true]
    refine ev_int (lv_nil ⟨?_, ?_⟩)
    · rw [sizeLine_eq]; simp
    · exact (ret_ok p)
theorem c_tp_int {i : Int} (p : Φ (.tup [.str "int", .int i]) σ) : FC c (n + 1) (.ref 272) [.str "int", V.int i] σ Φ := by
  refine' fc_def ?ho ?hcd [Str.ofString "kind", Str.ofString "value"] ?hb ?hl ?hx ?hkd ?hnd ?_ ?h1 ?h2 ?h3
  case ho => k_is
  case hcd => k_is
  case hl => rfl
  case hx => decide +kernel
  case hkd => kernel_rfl!
  case hnd => decide +kernel
  case h1 => rfl
  case h2 => rfl
  case h3 => rfl
  case hb =>
    intro s vs X hv
    obtain ⟨u0, u1, rfl⟩ := len2 hv
    first | exact BindsTo.of_eq rfl | exact kp_binds (K := HpK c.w.params) X (fun S => by kernel_rfl!)
  intro L
  refine xs_cons (x_if (tv_cmp (ev_var rfl (ev_str (p2_eqSd (r := false) (by decide +kernel) ⟨_, rfl, ?_⟩)))))
  refine xs_nil ?_
  refine xs_cons (x_if (tv_cmp (ev_var rfl (ev_str (p2_eqSd (r := false) (by decide +kernel) ⟨_, rfl, ?_⟩)))))
  refine xs_nil ?_
  refine xs_cons (x_if (tv_cmp (ev_var rfl (ev_str (p2_eqSd (r := true) (by decide +kernel) ⟨_, rfl, ?_⟩)))))
  refine xs_cons (x_ret (ev_tup (lv_cons (ev_str (lv_cons (ev_var rfl (lv_nil ⟨?_, ?_⟩)))))))
  · rw [sizeLine_eq]; simp
  · exact (ret_ok p)
theorem c_tp_dec (p : Φ (.tup [.str "real", .int 25, .int 1]) σ) : FC c (n + 1) (.ref 272) [.str "real", decV] σ Φ := by
  refine' fc_def ?ho ?hcd [Str.ofString "kind", Str.ofString "value"] ?hb ?hl ?hx ?hkd ?hnd ?_ ?h1 ?h2 ?h3
  case ho => k_is
  case hcd => k_is
  case hl => rfl
  case hx => decide +kernel
  case hkd => kernel_rfl!
  case hnd => decide +kernel
  case h1 => rfl
  case h2 => rfl
  case h3 => rfl
  case hb =>
    intro s vs X hv
    obtain ⟨u0, u1, rfl⟩ := len2 hv
    first | exact BindsTo.of_eq rfl | exact kp_binds (K := HpK c.w.params) X (fun S => by kernel_rfl!)
  intro L
  refine xs_cons (x_if (tv_cmp (ev_var rfl (ev_str (p2_eqSd (r := false) (by decide +kernel) ⟨_, rfl, ?_⟩)))))
  refine xs_nil ?_
  refine xs_cons (x_if (tv_cmp (ev_var rfl (ev_str (p2_eqSd (r := false) (by decide +kernel) ⟨_, rfl, ?_⟩)))))
  refine xs_nil ?_
  refine xs_cons (x_if (tv_cmp (ev_var rfl (ev_str (p2_eqSd (r := false) (by decide +kernel) ⟨_, rfl, ?_⟩)))))
  refine xs_nil ?_
  refine xs_cons (x_if (tv_cmp (ev_var rfl (ev_str (p2_eqSd (r := true) (by decide +kernel) ⟨_, rfl, ?_⟩)))))
  refine xs_cons (x_ret (ev_tup (lv_cons (ev_str (lv_cons (ev_va rfl rfl (by k_is) (by k_is) (by k_is) (by k_is) (lv_cons (ev_va rfl rfl (by k_is) (by k_is) (by k_is) (by k_is) (lv_nil ⟨?_, ?_⟩)))))))))
  · rw [sizeLine_eq]; simp
  · exact (ret_ok p)
theorem c_tp_name {t : Str} (p : Φ (.tup [.str "name", .str t]) σ) : FC c (n + 1) (.ref 272) [.str "name", nameV t] σ Φ := by
  refine' fc_def ?ho ?hcd [Str.ofString "kind", Str.ofString "value"] ?hb ?hl ?hx ?hkd ?hnd ?_ ?h1 ?h2 ?h3
  case ho => k_is
  case hcd => k_is
  case hl => rfl
  case hx => decide +kernel
  case hkd => kernel_rfl!
  case hnd => decide +kernel
  case h1 => rfl
  case h2 => rfl
  case h3 => rfl
  case hb =>
    intro s vs X hv
    obtain ⟨u0, u1, rfl⟩ := len2 hv
    first | exact BindsTo.of_eq rfl | exact kp_binds (K := HpK c.w.params) X (fun S => by kernel_rfl!)
  intro L
  refine xs_cons (x_if (tv_cmp (ev_var rfl (ev_str (p2_eqSd (r := false) (by decide +kernel) ⟨_, rfl, ?_⟩)))))
  refine xs_nil ?_
  refine xs_cons (x_if (tv_cmp (ev_var rfl (ev_str (p2_eqSd (r := false) (by decide +kernel) ⟨_, rfl, ?_⟩)))))
  refine xs_nil ?_
  refine xs_cons (x_if (tv_cmp (ev_var rfl (ev_str (p2_eqSd (r := false) (by decide +kernel) ⟨_, rfl, ?_⟩)))))
  refine xs_nil ?_
  refine xs_cons (x_if (tv_cmp (ev_var rfl (ev_str (p2_eqSd (r := false) (by decide +kernel) ⟨_, rfl, ?_⟩)))))
  refine xs_nil ?_
  refine xs_cons (x_if (tv_cmp (ev_var rfl (ev_str (p2_eqSd (r := true) (by decide +kernel) ⟨_, rfl, ?_⟩)))))
  refine xs_cons (x_ret (ev_tup (lv_cons (ev_str (lv_cons (ev_va rfl rfl (by k_is) (by k_is) (by k_is) (by k_is) (lv_nil ⟨?_, ?_⟩)))))))
  · rw [sizeLine_eq]; simp
  · exact (ret_ok p)
theorem c_tp_string {b : List UInt8} (p : Φ (.tup [.str "string", .bytes b]) σ) : FC c (n + 1) (.ref 272) [.str "string", stringV b] σ Φ := by
  refine' fc_def ?ho ?hcd [Str.ofString "kind", Str.ofString "value"] ?hb ?hl ?hx ?hkd ?hnd ?_ ?h1 ?h2 ?h3
  case ho => k_is
  case hcd => k_is
  case hl => rfl
  case hx => decide +kernel
  case hkd => kernel_rfl!
  case hnd => decide +kernel
  case h1 => rfl
  case h2 => rfl
  case h3 => rfl
  case hb =>
    intro s vs X hv
    obtain ⟨u0, u1, rfl⟩ := len2 hv
    first | exact BindsTo.of_eq rfl | exact kp_binds (K := HpK c.w.params) X (fun S => by kernel_rfl!)
  intro L
  refine xs_cons (x_if (tv_cmp (ev_var rfl (ev_str (p2_eqSd (r := false) (by decide +kernel) ⟨_, rfl, ?_⟩)))))
  refine xs_nil ?_
  refine xs_cons (x_if (tv_cmp (ev_var rfl (ev_str (p2_eqSd (r := false) (by decide +kernel) ⟨_, rfl, ?_⟩)))))
  refine xs_nil ?_
  refine xs_cons (x_if (tv_cmp (ev_var rfl (ev_str (p2_eqSd (r := false) (by decide +kernel) ⟨_, rfl, ?_⟩)))))
  refine xs_nil ?_
  refine xs_cons (x_if (tv_cmp (ev_var rfl (ev_str (p2_eqSd (r := false) (by decide +kernel) ⟨_, rfl, ?_⟩)))))
  refine xs_nil ?_
  refine xs_cons (x_if (tv_cmp (ev_var rfl (ev_str (p2_eqSd (r := false) (by decide +kernel) ⟨_, rfl, ?_⟩)))))
  refine xs_nil ?_
  refine xs_cons (x_if (tv_cmp (ev_var rfl (ev_str (p2_eqSd (r := true) (by decide +kernel) ⟨_, rfl, ?_⟩)))))
  refine xs_cons (x_ret (ev_tup (lv_cons (ev_str (lv_cons (ev_callT (by k_is) rfl (by kernel_rfl!) (lv_cons (ev_va rfl rfl (by k_is) (by k_is) (by k_is) (by k_is) (lv_nil (cv_bytesB (lv_nil ⟨?_, ?_⟩)))))))))))
  · rw [sizeLine_eq]; simp
  · exact (ret_ok p)
theorem c_tp_ref {i g : Int} (p : Φ (.tup [.str "ref", .int i, .int g]) σ) : FC c (n + 1) (.ref 272) [.str "ref", refV i g] σ Φ := by
  refine' fc_def ?ho ?hcd [Str.ofString "kind", Str.ofString "value"] ?hb ?hl ?hx ?hkd ?hnd ?_ ?h1 ?h2 ?h3
  case ho => k_is
  case hcd => k_is
  case hl => rfl
  case hx => decide +kernel
  case hkd => kernel_rfl!
  case hnd => decide +kernel
  case h1 => rfl
  case h2 => rfl
  case h3 => rfl
  case hb =>
    intro s vs X hv
    obtain ⟨u0, u1, rfl⟩ := len2 hv
    first | exact BindsTo.of_eq rfl | exact kp_binds (K := HpK c.w.params) X (fun S => by kernel_rfl!)
  intro L
  refine xs_cons (x_if (tv_cmp (ev_var rfl (ev_str (p2_eqSd (r := false) (by decide +kernel) ⟨_, rfl, ?_⟩)))))
  refine xs_nil ?_
  refine xs_cons (x_if (tv_cmp (ev_var rfl (ev_str (p2_eqSd (r := false) (by decide +kernel) ⟨_, rfl, ?_⟩)))))
  refine xs_nil ?_
  refine xs_cons (x_if (tv_cmp (ev_var rfl (ev_str (p2_eqSd (r := false) (by decide +kernel) ⟨_, rfl, ?_⟩)))))
  refine xs_nil ?_
  refine xs_cons (x_if (tv_cmp (ev_var rfl (ev_str (p2_eqSd (r := false) (by decide +kernel) ⟨_, rfl, ?_⟩)))))
  refine xs_nil ?_
  refine xs_cons (x_if (tv_cmp (ev_var rfl (ev_str (p2_eqSd (r := false) (by decide +kernel) ⟨_, rfl, ?_⟩)))))
  refine xs_nil ?_
  refine xs_cons (x_if (tv_cmp (ev_var rfl (ev_str (p2_eqSd (r := false) (by decide +kernel) ⟨_, rfl, ?_⟩)))))
  refine xs_nil ?_
  refine xs_cons (x_ret (ev_tup (lv_cons (ev_str (lv_cons (ev_va rfl rfl (by k_is) (by k_is) (by k_is) (by k_is) (lv_cons (ev_va rfl rfl (by k_is) (by k_is) (by k_is) (by k_is) (lv_nil ⟨?_, ?_⟩)))))))))
  · rw [sizeLine_eq]; simp
  · exact (ret_ok p)
end
end Mine
end

section
open PySem PySem.W PyProof.Rows PySem.Calls PySem.Spec
set_option maxRecDepth 100000
namespace Mine
section
variable {c : Cx} {env : Env} {n : Nat} {Γ : Gm} {σ : St} {Φ : V → St → Prop} {Ψ : Fl → Gm → St → Prop}
theorem told_leaf {d r : V} {s : Str} (hkd : ∀ {c : Cx} {n : Nat} {σ : St} {Φ : V → St → Prop}, Φ (.str s) σ → FC c (n + 1) (.ref 265) [d] σ Φ) (htp : ∀ {c : Cx} {n : Nat} {σ : St} {Φ : V → St → Prop}, Φ r σ → FC c (n + 1) (.ref 272) [.str s, d] σ Φ)
    (h1 : (s == ("array" : Str)) = false) (h2 : (s == ("dict" : Str)) = false) (h3 : (s == ("stream" : Str)) = false) (p : Φ r σ) : FC c (n + 2) (.ref 277) [d] σ Φ := by
  refine' fc_def ?ho ?hcd [Str.ofString "value"] ?hb ?hl ?hx ?hkd ?hnd ?_ ?h1 ?h2 ?h3
  case ho => k_is
  case hcd => k_is
  case hl => rfl
  case hx => decide +kernel
  case hkd => kernel_rfl!
  case hnd => decide +kernel
  case h1 => rfl
  case h2 => rfl
  case h3 => rfl
  case hb =>
    intro s vs X hv
    obtain ⟨u0, rfl⟩ := len1 hv
    first | exact BindsTo.of_eq rfl | exact kp_binds (K := HpK c.w.params) X (fun S => by kernel_rfl!)
  intro L
  refine xs_cons (x_assign (ev_call (by k_is) (by kernel_rfl!) (by k_is) (lv_cons (ev_var rfl (lv_nil (FC.cv (hkd ?_)))))) (by kernel_rfl!))
  refine xs_cons (x_if (tv_cmp (ev_var rfl (ev_str (p2_eqSd h1 ⟨_, rfl, ?_⟩)))))
  refine xs_nil ?_
  refine xs_cons (x_if (tv_cmp (ev_var rfl (ev_str (p2_eqSd h2 ⟨_, rfl, ?_⟩)))))
  refine xs_nil ?_
  refine xs_cons (x_if (tv_cmp (ev_var rfl (ev_str (p2_eqSd h3 ⟨_, rfl, ?_⟩)))))
  refine xs_nil ?_
  exact xs_cons (x_ret (ev_call (by k_is) (by kernel_rfl!) (by k_is) (lv_cons (ev_var rfl (lv_cons (ev_var rfl (lv_nil (FC.cv (htp (ret_ok p))))))))))
theorem told_list {m : Nat} {ds : List V} {R : V → V} (hz : ds.length ≤ 1000) (hne : ds ≠ []) (hR : ∀ d ∈ ds, ∀ {c : Cx} {n : Nat} {σ : St} {Φ : V → St → Prop}, Φ (R d) σ → FC c (n + m + 2) (.ref 277) [d] σ Φ)
    (p : Φ (.tup (.str "array" :: ds.map R)) σ) : FC c (n + m + 3) (.ref 277) [.list ds] σ Φ := by
  refine' fc_def ?ho ?hcd [Str.ofString "value"] ?hb ?hl ?hx ?hkd ?hnd ?_ ?h1 ?h2 ?h3
  case ho => k_is
  case hcd => k_is
  case hl => rfl
  case hx => decide +kernel
  case hkd => kernel_rfl!
  case hnd => decide +kernel
  case h1 => rfl
  case h2 => rfl
  case h3 => rfl
  case hb =>
    intro s vs X hv
    obtain ⟨u0, rfl⟩ := len1 hv
    first | exact BindsTo.of_eq rfl | exact kp_binds (K := HpK c.w.params) X (fun S => by kernel_rfl!)
  intro L
  refine xs_cons (x_assign (ev_call (by k_is) (by kernel_rfl!) (by k_is) (lv_cons (ev_var rfl (lv_nil (FC.cv (c_kind_list ?_)))))) (by kernel_rfl!))
  refine xs_cons (x_if (tv_cmp (ev_var rfl (ev_str (p2_eqSd (r := true) (by decide +kernel) ⟨_, rfl, ?_⟩)))))
  refine xs_cons (x_ret (ev_binop (ev_tup (lv_cons (ev_str (lv_nil ⟨?_, ?_⟩))))))
  · rw [sizeLine_eq]; simp
  refine ev_callT (by k_is) rfl (by kernel_rfl!) (lv_cons (ev_comp (cl := []) ?_ (by decide) rfl (by decide) (by decide) (fun p hp => nomatch hp) (by simp) [] trivial rfl ?_))
  · rfl
  refine ie_of (ev_var rfl ⟨ds, iv_list, fun rem acc σ' => σ' = σ ∧ acc ++ rem.map R = ds.map R ∧ ∀ d ∈ rem, d ∈ ds, ⟨rfl, rfl, fun d hd => hd⟩, ⟨fun rem acc σ' q => ?_, fun d r acc σ' C q => ?_⟩, fun acc σ' q => ?_⟩)
  · have := congrArg List.length q.2.1
    simp at this; omega
  · obtain ⟨rfl, q1, q2⟩ := q
    refine tl_nil ?_
    refine ev_call (by k_is) (by kernel_rfl!) (by k_is) (lv_cons (ev_var rfl (lv_nil (FC.cv (hR d (q2 d (.head _)) ⟨rfl, ?_, fun x hx => q2 x (.tail _ hx)⟩)))))
    rw [← q1]; simp
  · obtain ⟨rfl, q1, q2⟩ := q
    have q1 : acc = ds.map R := by simpa using q1
    subst q1
    refine lv_nil (cv_tuple IsLs.fr (by simp; omega) ?_)
    refine p2_addT (by simp) (by simpa using hne) (by simp) (by simp; omega) ?_
    exact (ret_ok p)
theorem IsD.frS {es : List (Str × V)} : IsD σ (.ds es) .s es := .inl rfl
theorem IsD.frI {es : List (Int × V)} : IsD σ (.di es) .i es := .inl rfl
theorem IsD.frB {es : List (List UInt8 × V)} : IsD σ (.db es) .b es := .inl rfl
theorem dl_some {K α : Type} [DecidableEq K] {l : List (K × α)} {x : K} (h : x ∈ l.map (·.1)) : ∃ v, dl l x = some v ∧ (x, v) ∈ l := by
  cases e : dl l x with
  | none => exact absurd h (dl_none e)
  | some v => exact ⟨v, rfl, dl_mem e⟩
noncomputable def toldE (es : List (Str × V)) (R : V → V) (d : V) : V := match d with
  | .str k => .tup [.str k, R ((dl es k).getD .none)]
  | _ => .none
theorem srt_mem {k : Kd} {ks : List k.T} {x : k.T} (h : x ∈ srt k ks) : x ∈ ks := (srt_perm k ks).mem_iff.mp h
theorem told_dict {m : Nat} {es : List (Str × V)} {R : V → V} (hz : es.length ≤ 20) (hne : es ≠ []) (hnn : ∀ p ∈ es, p.2 ≠ V.none) (hob : ∀ p ∈ es, vis p.2 .none = some false) (hR : ∀ p ∈ es, ∀ {c : Cx} {n : Nat} {σ : St} {Φ : V → St → Prop}, Φ (R p.2) σ → FC c (n + m + 2) (.ref 277) [p.2] σ Φ)
    (p : Φ (.tup (.str "dict" :: (srt .s (es.map (·.1))).map fun k => toldE es R (.str k))) σ) : FC c (n + m + 3) (.ref 277) [.ds es] σ Φ := by
  refine' fc_def ?ho ?hcd [Str.ofString "value"] ?hb ?hl ?hx ?hkd ?hnd ?_ ?h1 ?h2 ?h3
  case ho => k_is
  case hcd => k_is
  case hl => rfl
  case hx => decide +kernel
  case hkd => kernel_rfl!
  case hnd => decide +kernel
  case h1 => rfl
  case h2 => rfl
  case h3 => rfl
  case hb =>
    intro s vs X hv
    obtain ⟨u0, rfl⟩ := len1 hv
    first | exact BindsTo.of_eq rfl | exact kp_binds (K := HpK c.w.params) X (fun S => by kernel_rfl!)
  intro L
  refine xs_cons (x_assign (ev_call (by k_is) (by kernel_rfl!) (by k_is) (lv_cons (ev_var rfl (lv_nil (FC.cv (c_kind_dict ?_)))))) (by kernel_rfl!))
  refine xs_cons (x_if (tv_cmp (ev_var rfl (ev_str (p2_eqSd (r := false) (by decide +kernel) ⟨_, rfl, ?_⟩)))))
  refine xs_nil ?_
  refine xs_cons (x_if (tv_cmp (ev_var rfl (ev_str (p2_eqSd (r := true) (by decide +kernel) ⟨_, rfl, ?_⟩)))))
  refine xs_cons (x_ret (ev_binop (ev_tup (lv_cons (ev_str (lv_nil ⟨?_, ?_⟩))))))
  · rw [sizeLine_eq]; simp
  have hlen : (srt .s (es.map (·.1))).length = es.length := by rw [(srt_perm .s _).length_eq, List.length_map]
  refine ev_callT (by k_is) rfl (by kernel_rfl!) (lv_cons (ev_comp (cl := [(Str.ofString "value", L + 1)]) ?hclos (by decide) rfl (by decide) (by decide) ?hcl (by simp) [(Str.ofString "value", .ds es)] ⟨⟨rfl, by kernel_rfl!, _, rfl, rfl⟩, trivial⟩ rfl ?_))
  case hclos => rfl
  case hcl =>
    intro p hp
    cases hp with
    | head => rfl
    | tail _ hp => cases hp
  refine ie_of (ev_callB (by k_is) rfl (by kernel_rfl!) (lv_cons (ev_var rfl (lv_nil (cv_sorted .s (es := es) IsD.frS (by omega) ⟨_, iv_list, ?_⟩)))))
  refine ⟨fun rem acc σ' => σ' = σ ∧ acc ++ rem.map (toldE es R) = (srt .s (es.map (·.1))).map (fun k => toldE es R (.str k)) ∧ ∀ d ∈ rem, ∃ k, k ∈ es.map (·.1) ∧ d = .str k, ⟨rfl, ?_, fun d hd => ?_⟩, ⟨fun rem acc σ' q => ?_, fun d r acc σ' C q => ?_⟩, fun acc σ' q => ?_⟩
  · rw [List.nil_append, List.map_map]; rfl
  · obtain ⟨k, hk, rfl⟩ := List.mem_map.mp hd
    exact ⟨k, srt_mem hk, rfl⟩
  · have := congrArg List.length q.2.1
    simp [hlen] at this; omega
  · obtain ⟨rfl, q1, q2⟩ := q
    obtain ⟨k, hk, rfl⟩ := q2 _ (.head _)
    obtain ⟨v, hv, hm⟩ := dl_some hk
    refine tl_one (tv_cmp (ev_sub (ev_var rfl (ev_var rfl (p2_dget .s IsD.frS rfl hv (ev_none (p2_isnot (hob _ hm) ⟨_, rfl, ?_⟩)))))))
    refine ev_tup (lv_cons (ev_var rfl (lv_cons (ev_call (by k_is) (by kernel_rfl!) (by k_is) (lv_cons (ev_sub (ev_var rfl (ev_var rfl (p2_dget .s IsD.frS rfl hv (lv_nil (FC.cv (hR _ hm (lv_nil ⟨?_, rfl, ?_, fun x hx => q2 x (.tail _ hx)⟩)))))))))))))
    · rw [sizeLine_eq]; simp
    · rw [← q1]; simp [toldE, hv]
  · obtain ⟨rfl, q1, q2⟩ := q
    rw [List.map_nil, List.append_nil] at q1
    subst q1
    refine lv_nil (cv_tuple IsLs.fr (by simp [hlen]; omega) ?_)
    refine p2_addT (by simp) (fun e => hne ?_) (by simp) (by simp [hlen]; omega) ?_
    · have := congrArg List.length e
      simp [hlen] at this
      exact this
    exact (ret_ok p)

theorem Tree.vis {m : Nat} {d : V} (h : Tree m d) (hn : d ≠ V.none) : vis d .none = some false := by
  cases h <;> first | rfl | exact absurd rfl hn
theorem plainVs_all : ∀ {l : List V}, (∀ d ∈ l, plainV d = true) → plainVs l = true
  | [], _ => rfl
  | x :: l, h => by simp only [plainVs, h x (.head _), plainVs_all fun d hd => h d (.tail _ hd), Bool.and_self]
theorem vdeps_all {b : Nat} : ∀ {l : List V}, (∀ d ∈ l, vdep d ≤ b) → vdeps l ≤ b
  | [], _ => by simp [vdeps]
  | x :: l, h => by
    have h1 := h x (.head _)
    have h2 := vdeps_all fun d hd => h d (.tail _ hd)
    simp only [vdeps]; omega
/-- what told answers -/
noncomputable def ToldIs (m : Nat) (d r : V) : Prop := plainV r = true ∧ vdep r ≤ 2 * m + 1 ∧ ∀ {c : Cx} {n : Nat} {σ : St} {Φ : V → St → Prop}, Φ r σ → FC c (n + m + 2) (.ref 277) [d] σ Φ
theorem FC.le {c : Cx} {n n' : Nat} {f : Value} {ds : List V} {σ : St} {Φ : V → St → Prop} (h : FC c n f ds σ Φ) (hn : n ≤ n') : FC c n' f ds σ Φ :=
  ⟨fun A own s vs R ar ow r k => h.run A own s vs R ⟨ar.handled, by have := ar.depth; omega, by have := ar.units; omega⟩ ow r k⟩
theorem told_of_leaf {m : Nat} {d r : V} (h1 : plainV r = true) (h2 : vdep r ≤ 1) (h : ∀ {c : Cx} {n : Nat} {σ : St} {Φ : V → St → Prop}, Φ r σ → FC c (n + 2) (.ref 277) [d] σ Φ) : ToldIs m d r :=
  ⟨h1, by omega, fun {c} {n} {σ} {Φ} p => (h (n := n) p).le (by omega)⟩
open Classical in
theorem told_ex {m : Nat} {d : V} (h : Tree m d) : ∃ r, ToldIs m d r := by
  induction h with
  | none => exact ⟨_, told_of_leaf (by decide) (by decide) (told_leaf c_kind_none c_tp_none (by decide +kernel) (by decide +kernel) (by decide +kernel))⟩
  | bool b => exact ⟨_, told_of_leaf rfl (by simp [vdep, vdeps]) (told_leaf c_kind_bool c_tp_bool (by decide +kernel) (by decide +kernel) (by decide +kernel))⟩
  | int i => exact ⟨_, told_of_leaf rfl (by simp [vdep, vdeps]) (told_leaf c_kind_int c_tp_int (by decide +kernel) (by decide +kernel) (by decide +kernel))⟩
  | dec => exact ⟨_, told_of_leaf rfl (by simp [vdep, vdeps]) (told_leaf c_kind_dec c_tp_dec (by decide +kernel) (by decide +kernel) (by decide +kernel))⟩
  | name t => exact ⟨_, told_of_leaf rfl (by simp [vdep, vdeps]) (told_leaf c_kind_name c_tp_name (by decide +kernel) (by decide +kernel) (by decide +kernel))⟩
  | string b => exact ⟨_, told_of_leaf rfl (by simp [vdep, vdeps]) (told_leaf c_kind_string c_tp_string (by decide +kernel) (by decide +kernel) (by decide +kernel))⟩
  | ref i g => exact ⟨_, told_of_leaf rfl (by simp [vdep, vdeps]) (told_leaf c_kind_ref c_tp_ref (by decide +kernel) (by decide +kernel) (by decide +kernel))⟩
  | @list m ds hz hne ht ih =>
    have hf : ∀ d : V, ∃ r, d ∈ ds → ToldIs m d r := fun d => by
      by_cases hd : d ∈ ds
      · obtain ⟨r, hr⟩ := ih d hd; exact ⟨r, fun _ => hr⟩
      · exact ⟨.none, fun q => absurd q hd⟩
    obtain ⟨R, hR⟩ := Classical.axiomOfChoice hf
    refine ⟨.tup (.str "array" :: ds.map R), ?_, ?_, fun {c} {n} {σ} {Φ} p => told_list (R := R) hz hne (fun d hd {c} {n} {σ} {Φ} q => (hR d hd).2.2 q) p⟩
    · simp only [plainV, plainVs, Bool.true_and]
      refine plainVs_all fun d hd => ?_
      obtain ⟨x, hx, rfl⟩ := List.mem_map.mp hd
      exact (hR x hx).1
    · have : vdeps (ds.map R) ≤ 2 * m + 1 := vdeps_all fun d hd => by
        obtain ⟨x, hx, rfl⟩ := List.mem_map.mp hd
        exact (hR x hx).2.1
      simp only [vdep, vdeps]; omega
  | @dict m es hz hne hnd hnn ht ih =>
    have hf : ∀ d : V, ∃ r, (∃ p ∈ es, p.2 = d) → ToldIs m d r := fun d => by
      by_cases hd : ∃ p ∈ es, p.2 = d
      · obtain ⟨p, hp, rfl⟩ := hd
        obtain ⟨r, hr⟩ := ih p hp; exact ⟨r, fun _ => hr⟩
      · exact ⟨.none, fun q => absurd q hd⟩
    obtain ⟨R, hR⟩ := Classical.axiomOfChoice hf
    refine ⟨.tup (.str "dict" :: (srt .s (es.map (·.1))).map fun k => toldE es R (.str k)), ?_, ?_, fun {c} {n} {σ} {Φ} p => told_dict (R := R) hz hne hnn (fun p hp => (ht p hp).vis (hnn p hp)) (fun q hq {c} {n} {σ} {Φ} r => (hR q.2 ⟨q, hq, rfl⟩).2.2 r) p⟩
    · simp only [plainV, plainVs, Bool.true_and]
      refine plainVs_all fun d hd => ?_
      obtain ⟨k, hk, rfl⟩ := List.mem_map.mp hd
      obtain ⟨v, hv, hm⟩ := dl_some (srt_mem hk)
      simp [toldE, plainV, plainVs, hv, (hR v ⟨_, hm, rfl⟩).1]
    · have : vdeps ((srt .s (es.map (·.1))).map fun k => toldE es R (.str k)) ≤ 2 * m + 2 := vdeps_all fun d hd => by
        obtain ⟨k, hk, rfl⟩ := List.mem_map.mp hd
        obtain ⟨v, hv, hm⟩ := dl_some (srt_mem hk)
        have := (hR v ⟨_, hm, rfl⟩).2.1
        simp only [toldE, hv, Option.getD_some, vdep, vdeps]; omega
      simp only [vdep, vdeps]; omega
end
end Mine
end

section
open PySem PySem.W PyProof.Rows PySem.Calls PySem.Spec
set_option maxRecDepth 100000
namespace Mine
section
variable {c : Cx} {env : Env} {n : Nat} {Γ : Gm} {σ : St} {Φ : V → St → Prop} {Ψ : Fl → Gm → St → Prop}
theorem p2_neid {a b : Int} {r : Bool} (e : (a != b) = r) (p : Φ (.bool r) σ) : P2 c n (.int a) (.int b) σ (compareOp .NotEq) Φ := p2_nei (by rw [e]; exact p)
/-- no Reference -/
noncomputable def NR (w : World) (d : V) : Prop := clsOk w d ∧ kitOne (HpK w.params) (typ d) (.ref 254) = some false
theorem nr_none {w : World} : NR w .none := ⟨trivial, by dsimp only [typ]; kit_is⟩
theorem nr_bool {w : World} {b : Bool} : NR w (.bool b) := ⟨trivial, by dsimp only [typ]; kit_is⟩
theorem nr_int {w : World} {i : Int} : NR w (.int i) := ⟨trivial, by dsimp only [typ]; kit_is⟩
theorem nr_list {w : World} {ds : List V} : NR w (.list ds) := ⟨trivial, by dsimp only [typ]; kit_is⟩
theorem nr_dict {w : World} {es : List (Str × V)} : NR w (.ds es) := ⟨trivial, by dsimp only [typ]; kit_is⟩
theorem nr_dec {w : World} : NR w decV := ⟨clsOk_dec, by dsimp only [typ]; kit_is⟩
theorem nr_name {w : World} {t : Str} : NR w (nameV t) := ⟨clsOk_name, by dsimp only [typ]; kit_is⟩
theorem nr_string {w : World} {b : List UInt8} : NR w (stringV b) := ⟨clsOk_string, by dsimp only [typ]; kit_is⟩
theorem isref {w : World} {i g : Int} : kitOne (HpK w.params) (typ (refV i g)) (.ref 254) = some true := by dsimp only [typ]; kit_is

theorem c_fetch1 {tb tr d : V} (h : NR c.w d) (p : Φ d σ) : FC c (n + 1) (.ref 299) [shelfV tb tr, d] σ Φ := by
  refine' fc_def ?ho ?hcd [Str.ofString "self", Str.ofString "value"] ?hb ?hl ?hx ?hkd ?hnd ?_ ?h1 ?h2 ?h3
  case ho => k_is
  case hcd => k_is
  case hl => rfl
  case hx => decide +kernel
  case hkd => kernel_rfl!
  case hnd => decide +kernel
  case h1 => rfl
  case h2 => rfl
  case h3 => rfl
  case hb =>
    intro s vs X hv
    obtain ⟨u0, u1, rfl⟩ := len2 hv
    first | exact BindsTo.of_eq rfl | exact kp_binds (K := HpK c.w.params) X (fun S => by kernel_rfl!)
  intro L
  refine xs_cons (x_assign (ev_var rfl ?_) (by kernel_rfl!))
  refine xs_cons (x_for (ie_range1 (by k_is) rfl (by kernel_rfl!) (ev_globD (by k_is) (by kernel_rfl!) (fun h _ => .int 30 _) ⟨30, rfl, by decide, ?_⟩)))
  refine ⟨fun rem Γ' σ' => rem = rangeV 0 1 30 ∧ Γ'.lookup (Str.ofString "here") = some d ∧ σ' = σ, ⟨rfl, rfl, rfl⟩, fun e r Γ' σ' q => ?_, fun Γ' σ' q => ?_⟩
  · obtain ⟨q1, q2, rfl⟩ := q
    refine ⟨_, av_name (by kernel_rfl!), ?_⟩
    refine xs_cons (x_if (tv_not (tv_plain (tv_isiG (whole := pure .none) (by k_is) (by kernel_rfl!) (by k_is) (by kernel_rfl!) q2 h.1 h.2 ?_))))
    exact xs_cons (x_ret (ev_var q2 (ret_ok p)))
  · have := congrArg List.length q.1
    simp [rangeV] at this
theorem c_fetch2 {tbl : List (Int × V)} {tr v : V} {i g : Int} (hl : dl tbl i = some (.tup [.int g, v])) (h : NR c.w v) (p : Φ v σ) : FC c (n + 1) (.ref 299) [shelfV (.di tbl) tr, refV i g] σ Φ := by
  refine' fc_def ?ho ?hcd [Str.ofString "self", Str.ofString "value"] ?hb ?hl ?hx ?hkd ?hnd ?_ ?h1 ?h2 ?h3
  case ho => k_is
  case hcd => k_is
  case hl => rfl
  case hx => decide +kernel
  case hkd => kernel_rfl!
  case hnd => decide +kernel
  case h1 => rfl
  case h2 => rfl
  case h3 => rfl
  case hb =>
    intro s vs X hv
    obtain ⟨u0, u1, rfl⟩ := len2 hv
    first | exact BindsTo.of_eq rfl | exact kp_binds (K := HpK c.w.params) X (fun S => by kernel_rfl!)
  intro L
  refine xs_cons (x_assign (ev_var rfl ?_) (by kernel_rfl!))
  refine xs_cons (x_for (ie_range1 (by k_is) rfl (by kernel_rfl!) (ev_globD (by k_is) (by kernel_rfl!) (fun h _ => .int 30 _) ⟨30, rfl, by decide, ?_⟩)))
  refine ⟨fun rem Γ' σ' => σ' = σ ∧ Γ'.lookup (Str.ofString "self") = some (shelfV (.di tbl) tr) ∧ ((rem.length = 30 ∧ Γ'.lookup (Str.ofString "here") = some (refV i g)) ∨ (rem.length = 29 ∧ Γ'.lookup (Str.ofString "here") = some v)), ⟨rfl, rfl, .inl ⟨by simp [rangeV], rfl⟩⟩, fun e r Γ' σ' q => ?_, fun Γ' σ' q => ?_⟩
  · obtain ⟨rfl, q1, q⟩ := q
    refine ⟨_, av_name (by kernel_rfl!), ?_⟩
    rcases q with ⟨q2, q3⟩ | ⟨q2, q3⟩
    · refine xs_cons (x_if (tv_not (tv_plain (tv_isiG (whole := pure .none) (by k_is) (by kernel_rfl!) (by k_is) (by kernel_rfl!) q3 clsOk_ref isref ?_))))
      refine xs_nil ?_
      refine xs_cons (x_assignT (ev_methB (ev_va q1 rfl (by k_is) (by k_is) (by k_is) (by k_is) ⟨_, mok_get .i IsD.frI, lv_cons (ev_va q3 rfl (by k_is) (by k_is) (by k_is) (by k_is) (lv_cons (ev_tup (lv_cons (ev_unop (ev_int (p1_neg (lv_cons (ev_none (lv_nil ⟨?_, lv_nil (cv_getD .i IsD.frI rfl ?_)⟩))))))))))⟩)))
      · rw [sizeLine_eq]; simp
      rw [hl, Option.getD_some]
      refine ⟨_, av_tuple rfl rfl (.cons (av_name (by kernel_rfl!)) (.cons (av_name (by kernel_rfl!)) .nil)), ?_⟩
      refine xs_cons (x_if (tv_cmp (ev_var rfl (ev_va q3 rfl (by k_is) (by k_is) (by k_is) (by k_is) (p2_neid (r := false) (by simp) ⟨_, rfl, ?_⟩)))))
      refine xs_nil ?_
      refine xs_cons (x_assign (ev_var rfl ?_) (by kernel_rfl!))
      exact xs_nil ⟨rfl, q1, .inr ⟨by simpa using q2, rfl⟩⟩
    · refine xs_cons (x_if (tv_not (tv_plain (tv_isiG (whole := pure .none) (by k_is) (by kernel_rfl!) (by k_is) (by kernel_rfl!) q3 h.1 h.2 ?_))))
      exact xs_cons (x_ret (ev_var q3 (ret_ok p)))
  · have := q.2.2
    simp at this
/-- what a fetch gives -/
noncomputable def Fet (w : World) (tbl : List (Int × V)) (d v : V) : Prop := NR w v ∧ (d = v ∨ ∃ i g, d = refV i g ∧ dl tbl i = some (.tup [.int g, v]))
theorem c_fetch {tbl : List (Int × V)} {tr d v : V} (h : Fet c.w tbl d v) (p : Φ v σ) : FC c (n + 1) (.ref 299) [shelfV (.di tbl) tr, d] σ Φ := by
  obtain ⟨h1, rfl | ⟨i, g, rfl, h2⟩⟩ := h
  · exact c_fetch1 h1 p
  · exact c_fetch2 h2 h1 p
/-- shelf.m(..), a method of the shelf -/
theorem ev_sh {x : Str} {f : Addr} {name : Str} {p apos pos : Pos} {tb tr : V} {e : Expr} {rest : List Expr} {pl : Sem Bool} (hv : Γ.lookup x = some (shelfV tb tr)) (hnm : [(Str.ofString "table", tb), (Str.ofString "trailer", tr)].lookup name = none) (hg : plainGet (HpK c.w.params) 363 name = true) (hf : findIn (HpK c.w.params) (.ref 363) name = some (some (.ref f))) (ht : isFn (HpK c.w.params) (.ref f) = true) (hk : keepIn (HpK c.w.params) (.ref f) = true)
    (h : LV c env n Γ σ (spliced (backTo pos (starEach (e :: rest) env))) fun ds σ₂ => CV c n (.ref f) (shelfV tb tr :: ds) σ₂ Φ)
    (he : eval (.Call (.Attribute (.Name x p) name apos) (e :: rest) [] pos) env = (do
      let ov ← eval (.Name x p) env
      standAt apos.atName
      let (f, first) ← holding [ov] (getMethod ov name pl)
      callWith pos f first (backTo pos (starEach (e :: rest) env)) (backToKw pos (keywordEach [] env))) := by rfl)
    (hs : starEach (e :: rest) env = (false, eval e env) :: starEach rest env := by rfl) (hplain : (backTo pos (starEach rest env)).any (·.1) = false := by rfl) (hd1 : (x == ("__debug__" : Str)) = false := by decide) (hn1 : (x == ("__classdict__" : Str)) = false := by decide) : EV c env n Γ σ (eval (.Call (.Attribute (.Name x p) name apos) (e :: rest) [] pos) env) Φ :=
  ev_meth (pl := pl) (ev_var hv ⟨f, ⟨⟨363, _, rfl, hnm, hg, hf⟩, ht, hk⟩, h⟩ hd1 hn1) he hs hplain
theorem c_get {tbl : List (Int × V)} {tr v : V} {es : List (Str × V)} {k : Str} (h : Fet c.w tbl ((dl es k).getD .none) v) (p : Φ v σ) : FC c (n + 2) (.ref 306) [shelfV (.di tbl) tr, .ds es, .str k] σ Φ := by
  refine' fc_def ?ho ?hcd [Str.ofString "self", Str.ofString "head", Str.ofString "key"] ?hb ?hl ?hx ?hkd ?hnd ?_ ?h1 ?h2 ?h3
  case ho => k_is
  case hcd => k_is
  case hl => rfl
  case hx => decide +kernel
  case hkd => kernel_rfl!
  case hnd => decide +kernel
  case h1 => rfl
  case h2 => rfl
  case h3 => rfl
  case hb =>
    intro s vs X hv
    obtain ⟨u0, u1, u2, rfl⟩ := len3 hv
    first | exact BindsTo.of_eq rfl | exact kp_binds (K := HpK c.w.params) X (fun S => by kernel_rfl!)
  intro L
  refine xs_cons (x_ret (ev_sh (f := 299) rfl rfl (by k_is) (by k_is) (by k_is) (by k_is) (lv_cons (ev_methB (ev_var rfl ⟨_, mok_get .s IsD.frS, lv_cons (ev_var rfl (lv_nil (cv_get .s IsD.frS rfl (lv_nil (FC.cv (c_fetch h ?_))))))⟩)))))
  exact (ret_ok p)
theorem c_root {tbl : List (Int × V)} {tr : List (Str × V)} {es : List (Str × V)} (h : Fet c.w tbl ((dl tr (Str.ofString "Root")).getD .none) (.ds es)) (p : Φ (.ds es) σ) : FC c (n + 3) (.ref 355) [shelfV (.di tbl) (.ds tr)] σ Φ := by
  refine' fc_def ?ho ?hcd [Str.ofString "self"] ?hb ?hl ?hx ?hkd ?hnd ?_ ?h1 ?h2 ?h3
  case ho => k_is
  case hcd => k_is
  case hl => rfl
  case hx => decide +kernel
  case hkd => kernel_rfl!
  case hnd => decide +kernel
  case h1 => rfl
  case h2 => rfl
  case h3 => rfl
  case hb =>
    intro s vs X hv
    obtain ⟨u0, rfl⟩ := len1 hv
    first | exact BindsTo.of_eq rfl | exact kp_binds (K := HpK c.w.params) X (fun S => by kernel_rfl!)
  intro L
  refine xs_cons (x_assign (ev_sh (f := 306) rfl rfl (by k_is) (by k_is) (by k_is) (by k_is) (lv_cons (ev_va rfl rfl (by k_is) (by k_is) (by k_is) (by k_is) (lv_cons (ev_str (lv_nil (FC.cv (c_get h ?_)))))))) (by kernel_rfl!))
  refine xs_cons (x_ret (ev_ifexp (tv_plain (tv_isiB (whole := pure .none) (by k_is) (by kernel_rfl!) (by k_is) rfl (by kernel_rfl!) rfl trivial (b := true) ?_ ?_))))
  · dsimp only [typ]; kit_is
  · exact ev_var rfl (ret_ok p)
theorem c_numbers {tbl : List (Int × V)} {tr : V} (hz : tbl.length < 64) (p : Φ (.list ((srt .i (tbl.map (·.1))).map V.int)) σ) : FC c (n + 1) (.ref 348) [shelfV (.di tbl) tr] σ Φ := by
  refine' fc_def ?ho ?hcd [Str.ofString "self"] ?hb ?hl ?hx ?hkd ?hnd ?_ ?h1 ?h2 ?h3
  case ho => k_is
  case hcd => k_is
  case hl => rfl
  case hx => decide +kernel
  case hkd => kernel_rfl!
  case hnd => decide +kernel
  case h1 => rfl
  case h2 => rfl
  case h3 => rfl
  case hb =>
    intro s vs X hv
    obtain ⟨u0, rfl⟩ := len1 hv
    first | exact BindsTo.of_eq rfl | exact kp_binds (K := HpK c.w.params) X (fun S => by kernel_rfl!)
  intro L
  refine xs_cons (x_ret (ev_callB (by k_is) rfl (by kernel_rfl!) (lv_cons (ev_va rfl rfl (by k_is) (by k_is) (by k_is) (by k_is) (lv_nil (cv_sorted .i (es := tbl) IsD.frI hz ?_))))))
  exact (ret_ok p)
end
end Mine
end

section
open PySem PySem.W PyProof.Rows PySem.Calls PySem.Spec
set_option maxRecDepth 100000
namespace Mine
section
variable {c : Cx} {env : Env} {n : Nat} {Γ : Gm} {σ : St} {Φ : V → St → Prop} {Ψ : Fl → Gm → St → Prop}
/-- dict(d), frozen at once -/
theorem cv_dictF {d : V} (k : Kd) {ds : List (k.T × V)} (i : IsD σ d k ds) (hsz : ds.length ≤ 10000) (p : Φ (.dict k ds) σ) : CV c n (.type "dict") [d] σ Φ := by
  refine ⟨fun A own s vs Q E ar ow r kt => ?_⟩
  cases r with
  | cons ra r =>
    cases r
    obtain ⟨a, es, m, rfl, e1, e2, e3, e4⟩ := i.inv ow ra
    obtain ⟨kvs, hd, kv⟩ := dict_of (w := c.w) e1 e2 e3
    refine kt_call_dict e4 hd (by rw [kv.length, sizeLine_eq]; omega) fun h' hd' sb => ?_
    have hn : s.heap.get? s.heap.objs.size = none := new_ge (Nat.le_refl _)
    have kp : Kp [] s.heap h' := ⟨fun b o e _ => (sb.2 b fun q => not_new ⟨o, e⟩ (q ▸ hn)).trans (Heap.get?_push_of_some _ e)⟩
    have ow1 := ow.quiet kp
    have st : Stp (adr σ) own s.heap (adr σ) own h' := .quiet kp
    obtain ⟨es', m', g1, g2, g3⟩ := dict_to (w := c.w) hd' (kv.mono (ow.stp st))
    exact kt _ _ σ own h' _ p ow1 st (V.dict_mk (hideAll_get own g1 fun q => not_new (ow.old _ q) hn) g2 g3 ow.newSys)

theorem set_last {α : Type} (σ : List α) (x y : α) : (σ ++ [x]).set σ.length y = σ ++ [y] := by
  rw [List.set_append_right _ _ (Nat.le_refl _)]; simp
theorem get_last {α : Type} (σ : List α) (x : α) : (σ ++ [x])[σ.length]? = some x := by simp
theorem c_home {tbl : List (Int × V)} {tr v : V} {i g : Int} (hl : dl tbl i = some (.tup [.int g, v])) (h : NR c.w v) (p : Φ (refV i g) σ) : FC c (n + 1) (.ref 415) [shelfV (.di tbl) tr, refV i g] σ Φ := by
  refine' fc_def ?ho ?hcd [Str.ofString "shelf", Str.ofString "value"] ?hb ?hl ?hx ?hkd ?hnd ?_ ?h1 ?h2 ?h3
  case ho => k_is
  case hcd => k_is
  case hl => rfl
  case hx => decide +kernel
  case hkd => kernel_rfl!
  case hnd => decide +kernel
  case h1 => rfl
  case h2 => rfl
  case h3 => rfl
  case hb =>
    intro s vs X hv
    obtain ⟨u0, u1, rfl⟩ := len2 hv
    first | exact BindsTo.of_eq rfl | exact kp_binds (K := HpK c.w.params) X (fun S => by kernel_rfl!)
  intro L
  refine xs_cons (x_assign (ev_var rfl ?_) (by kernel_rfl!))
  refine xs_cons (x_assign (ev_dict0C .i fun a => ?_) (by kernel_rfl!))
  refine xs_cons (x_while (fun m Γ' σ' => Γ' = [(Str.ofString "seen", .cell a), (Str.ofString "here", refV i g), (Str.ofString "shelf", shelfV (.di tbl) tr), (Str.ofString "value", refV i g)] ∧ σ' = σ ++ [(a, .dict .i [])]) 0 ⟨rfl, rfl⟩ ?_)
  rintro m Γ' σ' ⟨rfl, rfl⟩
  refine tv_and (tv_plain (tv_isiG (whole := pure .none) (by k_is) (by kernel_rfl!) (by k_is) (by kernel_rfl!) rfl clsOk_ref isref ?_))
  rw [if_pos rfl]
  refine tv_and (tv_cmp (ev_va rfl rfl (by k_is) (by k_is) (by k_is) (by k_is) (ev_var rfl (p2_notin .i (IsD.at_ σ.length (get_last _ _)) rfl ⟨_, rfl, ?_⟩))))
  refine tv_and_nil ?_
  refine xs_cons (x_setitem (ev_true (ev_var rfl (ev_va rfl rfl (by k_is) (by k_is) (by k_is) (by k_is) (s3_dict .i σ.length (get_last _ _) rfl (by simp) ?_)))))
  rw [set_last]
  refine xs_cons (x_assignT (ev_methB (ev_attr (ev_var rfl (p1_attr rfl (by k_is) (by k_is) (by k_is) (by k_is) ⟨_, mok_get .i IsD.frI, lv_cons (ev_va rfl rfl (by k_is) (by k_is) (by k_is) (by k_is) (lv_cons (ev_tup (lv_cons (ev_unop (ev_int (p1_neg (lv_cons (ev_none (lv_nil ⟨?_, lv_nil (cv_getD .i IsD.frI rfl ?_)⟩))))))))))⟩)))))
  · rw [sizeLine_eq]; simp
  rw [hl, Option.getD_some]
  refine ⟨_, av_tuple rfl rfl (.cons (av_name (by kernel_rfl!)) (.cons (av_name (by kernel_rfl!)) .nil)), ?_⟩
  refine xs_cons (x_if (tv_cmp (ev_var rfl (ev_va rfl rfl (by k_is) (by k_is) (by k_is) (by k_is) (p2_neid (r := false) (by simp) ⟨_, rfl, ?_⟩)))))
  refine xs_nil ?_
  refine xs_cons (x_if (tv_not (tv_plain (tv_isiG (whole := pure .none) (by k_is) (by kernel_rfl!) (by k_is) (by kernel_rfl!) rfl h.1 h.2 ?_))))
  exact xs_cons (x_ret (ev_var rfl ⟨_, σ, .inl rfl, List.sublist_append_left _ _, p⟩))
theorem c_is_node {tbl : List (Int × V)} {tr : V} {es : List (Str × V)} {t : Str} (hl : dl es (Str.ofString "Type") = some (nameV t)) (ht : t = Str.ofString "Pages" ∨ t = Str.ofString "Page") (p : Φ (.bool (t == Str.ofString "Pages")) σ) : FC c (n + 3) (.ref 422) [shelfV (.di tbl) tr, .ds es] σ Φ := by
  have hf : Fet c.w tbl ((dl es (Str.ofString "Type")).getD .none) (nameV t) := by rw [hl]; exact ⟨nr_name, .inl rfl⟩
  refine' fc_def ?ho ?hcd [Str.ofString "shelf", Str.ofString "head"] ?hb ?hl ?hx ?hkd ?hnd ?_ ?h1 ?h2 ?h3
  case ho => k_is
  case hcd => k_is
  case hl => rfl
  case hx => decide +kernel
  case hkd => kernel_rfl!
  case hnd => decide +kernel
  case h1 => rfl
  case h2 => rfl
  case h3 => rfl
  case hb =>
    intro s vs X hv
    obtain ⟨u0, u1, rfl⟩ := len2 hv
    first | exact BindsTo.of_eq rfl | exact kp_binds (K := HpK c.w.params) X (fun S => by kernel_rfl!)
  intro L
  refine xs_cons (x_assign (ev_sh (f := 306) rfl rfl (by k_is) (by k_is) (by k_is) (by k_is) (lv_cons (ev_var rfl (lv_cons (ev_str (lv_nil (FC.cv (c_get hf ?_)))))))) (by kernel_rfl!))
  refine xs_cons (x_if (tv_and (tv_plain (tv_isiG (whole := pure .none) (by k_is) (by kernel_rfl!) (by k_is) (by kernel_rfl!) rfl clsOk_name (b := true) ?_ ?_))))
  · dsimp only [typ]; kit_is
  rw [if_pos rfl]
  refine tv_and (tv_cmp (ev_va rfl rfl (by k_is) (by k_is) (by k_is) (by k_is) (ev_tup (lv_cons (ev_str (lv_cons (ev_str (lv_nil ⟨?_, p2_inT ?_ ?_ ⟨_, rfl, ?_⟩⟩))))))))
  · rw [sizeLine_eq]; simp
  · intro y hy
    simp only [List.mem_cons, List.mem_nil_iff, or_false] at hy
    rcases hy with rfl | rfl <;> exact ⟨_, rfl⟩
  · simp [vdeps, vdep]
  have hin : (List.any [V.str (Str.ofString "Pages"), V.str (Str.ofString "Page")] fun y => (veq y (V.str t)).getD false) = true := by
    rcases ht with rfl | rfl <;> decide +kernel
  rw [hin, if_pos rfl]
  refine tv_and_nil ?_
  refine xs_cons (x_ret (ev_cmp (ev_va rfl rfl (by k_is) (by k_is) (by k_is) (by k_is) (ev_str (p2_eqS (ret_ok p))))))
theorem c_kids {tbl : List (Int × V)} {tr : V} {es : List (Str × V)} {ds : List V} (hl : dl es (Str.ofString "Kids") = some (.list ds)) (p : Φ (.list ds) σ) : FC c (n + 3) (.ref 429) [shelfV (.di tbl) tr, .ds es] σ Φ := by
  have hf : Fet c.w tbl ((dl es (Str.ofString "Kids")).getD .none) (.list ds) := by rw [hl]; exact ⟨nr_list, .inl rfl⟩
  refine' fc_def ?ho ?hcd [Str.ofString "shelf", Str.ofString "head"] ?hb ?hl ?hx ?hkd ?hnd ?_ ?h1 ?h2 ?h3
  case ho => k_is
  case hcd => k_is
  case hl => rfl
  case hx => decide +kernel
  case hkd => kernel_rfl!
  case hnd => decide +kernel
  case h1 => rfl
  case h2 => rfl
  case h3 => rfl
  case hb =>
    intro s vs X hv
    obtain ⟨u0, u1, rfl⟩ := len2 hv
    first | exact BindsTo.of_eq rfl | exact kp_binds (K := HpK c.w.params) X (fun S => by kernel_rfl!)
  intro L
  refine xs_cons (x_assign (ev_sh (f := 306) rfl rfl (by k_is) (by k_is) (by k_is) (by k_is) (lv_cons (ev_var rfl (lv_cons (ev_str (lv_nil (FC.cv (c_get hf ?_)))))))) (by kernel_rfl!))
  refine xs_cons (x_if (tv_not (tv_plain (tv_isiB (whole := pure .none) (by k_is) (by kernel_rfl!) (by k_is) rfl (by kernel_rfl!) rfl trivial (b := true) ?_ ?_))))
  · dsimp only [typ]; kit_is
  refine xs_nil ?_
  exact xs_cons (x_ret (ev_var rfl (ret_ok p)))
end
end Mine
end

section
open PySem PySem.W PyProof.Rows PySem.Calls PySem.Spec
set_option maxRecDepth 100000
namespace Mine
section
variable {c : Cx} {env : Env} {n : Nat} {Γ : Gm} {σ : St} {Φ : V → St → Prop} {Ψ : Fl → Gm → St → Prop}
theorem p1_not {b : Bool} (p : Φ (.bool (!b)) σ) : P1 c n (.bool b) σ (unaryOp .Not) Φ := by
  refine ⟨fun A own s v Q E ar ow r k => ?_⟩
  cases r
  exact PyProof.Rows.not_of (wpAny_truthy_bool (k _ _ σ own s.heap s.toks p ow (.refl _ _ _) (.bool _)))
theorem p2_addT0 {es : List V} (p : Φ (.tup es) σ) : P2 c n (.tup []) (.tup es) σ (binaryOp .Add) Φ := by
  refine ⟨fun A own s u v Q E ar ow ra rb k => ?_⟩
  obtain ⟨a, vs, m, rfl, hl, r⟩ := tup_inv ra
  obtain ⟨b, us, m', rfl, hl', r'⟩ := tup_inv rb
  cases r
  exact concat_meets ⟨_, hl, rfl⟩ ⟨_, hl', rfl⟩ noFill_tuple_add seq_tuple_add PySem.F.slot_tuple_add PySem.F.entry_tuple_add (PySem.F.args_tuple_add_2 _ _) (tuple_addW0 a b [].toArray us.toArray m m' none none #[] #[] rfl)
    ⟨hl, hl', k _ _ σ own s.heap s.toks p ow (.refl _ _ _) rb⟩
noncomputable def inhK : List V := [.str "Resources", .str "MediaBox", .str "CropBox", .str "Rotate"]
theorem inh_is {h : Heap} (X : c.K.In h) : Rp c.w h (.ref 366) (.tup inhK) := by
  have e := X 366 _ (show (HpK c.w.params).lookup 366 = some _ by k_is)
  refine .tup (vs := [_, _, _, _]) (n := 0) e ?_
  exact .cons (.str _ _) (.cons (.str _ _) (.cons (.str _ _) (.cons (.str _ _) .nil)))
/-- a dict without what pages inherit -/
noncomputable def NoInh (es : List (Str × V)) : Prop := ∀ d ∈ inhK, ∃ k, d = .str k ∧ dl es k = none
theorem c_met {tbl : List (Int × V)} {tr above : V} {es : List (Str × V)} {i g : Int} {t : Str} (hl : dl tbl i = some (.tup [.int g, .ds es])) (hT : dl es (Str.ofString "Type") = some (nameV t)) (ht : t = Str.ofString "Pages" ∨ t = Str.ofString "Page") (hi : NoInh es)
    (p : Φ (spotV (refV i g) (.ds es) above (.ds []) (.bool (!(t == Str.ofString "Pages")))) σ) : FC c (n + 4) (.ref 436) [shelfV (.di tbl) tr, refV i g, above, .ds []] σ Φ := by
  refine' fc_def ?ho ?hcd [Str.ofString "shelf", Str.ofString "value", Str.ofString "above", Str.ofString "inherited"] ?hb ?hl ?hx ?hkd ?hnd ?_ ?h1 ?h2 ?h3
  case ho => k_is
  case hcd => k_is
  case hl => rfl
  case hx => decide +kernel
  case hkd => kernel_rfl!
  case hnd => decide +kernel
  case h1 => rfl
  case h2 => rfl
  case h3 => rfl
  case hb =>
    intro s vs X hv
    obtain ⟨u0, u1, u2, u3, rfl⟩ := len4 hv
    first | exact BindsTo.of_eq rfl | exact kp_binds (K := HpK c.w.params) X (fun S => by kernel_rfl!)
  intro L
  refine xs_cons (x_assign (ev_call (by k_is) (by kernel_rfl!) (by k_is) (lv_cons (ev_var rfl (lv_cons (ev_var rfl (lv_nil (FC.cv (c_home hl nr_dict ?_)))))))) (by kernel_rfl!))
  refine xs_cons (x_assign (ev_sh (f := 299) rfl rfl (by k_is) (by k_is) (by k_is) (by k_is) (lv_cons (ev_var rfl (lv_nil (FC.cv (c_fetch ⟨nr_dict, .inr ⟨_, _, rfl, hl⟩⟩ ?_)))))) (by kernel_rfl!))
  refine xs_cons (x_if (tv_not (tv_plain (tv_isiB (whole := pure .none) (by k_is) (by kernel_rfl!) (by k_is) rfl (by kernel_rfl!) rfl trivial (b := true) ?_ ?_))))
  · dsimp only [typ]; kit_is
  refine xs_nil ?_
  refine xs_cons (x_assign (ev_callT (by k_is) rfl (by kernel_rfl!) (lv_cons (ev_var rfl (lv_nil (cv_dictF .s IsD.frS (by simp) ?_))))) (by kernel_rfl!))
  refine xs_cons (x_for (ie_of (ev_globD (d := .tup inhK) (by k_is) (by kernel_rfl!) (fun h X => inh_is X) ⟨_, iv_tuple, ?_⟩)))
  refine ⟨fun rem Γ' σ' => Γ' = [(Str.ofString "given", .ds []), (Str.ofString "head", .ds es), (Str.ofString "reference", refV i g), (Str.ofString "shelf", shelfV (.di tbl) tr), (Str.ofString "value", refV i g), (Str.ofString "above", above), (Str.ofString "inherited", .ds [])] ∧ σ' = σ ∧ ∀ d ∈ rem, d ∈ inhK, ⟨rfl, rfl, fun d hd => hd⟩, fun d r Γ' σ' q => ?_, fun Γ' σ' q => ?_⟩
  · obtain ⟨rfl, rfl, q⟩ := q
    obtain ⟨k, rfl, hk⟩ := hi d (q d (.head _))
    have hf : Fet c.w tbl ((dl es k).getD .none) .none := by rw [hk]; exact ⟨nr_none, .inl rfl⟩
    refine ⟨_, av_name (by kernel_rfl!), ?_⟩
    refine xs_cons (x_if (tv_cmp (ev_sh (f := 306) rfl rfl (by k_is) (by k_is) (by k_is) (by k_is) (lv_cons (ev_var rfl (lv_cons (ev_var rfl (lv_nil (FC.cv (c_get hf (ev_none (p2_isnot rfl ⟨_, rfl, ?_⟩))))))))))))
    refine xs_nil ?_
    refine xs_nilW ?hh ⟨rfl, rfl, fun x hx => q x (.tail _ hx)⟩
    case hh => exact ⟨rfl, rfl, rfl, rfl, rfl, rfl, rfl, trivial⟩
  · obtain ⟨rfl, rfl, q⟩ := q
    refine xs_cons (x_ret (ev_call (by k_is) (by kernel_rfl!) (by k_is) ?_))
    refine lv_cons (ev_var rfl (lv_cons (ev_var rfl (lv_cons (ev_var rfl (lv_cons (ev_var rfl (lv_cons (ev_unop ?_)))))))))
    refine ev_call (by k_is) (by kernel_rfl!) (by k_is) (lv_cons (ev_var rfl (lv_cons (ev_var rfl (lv_nil (FC.cv (c_is_node hT ht (p1_not ?_))))))))
    refine lv_nil (FC.cv (c_Spot ?_))
    exact (ret_ok p)
end
end Mine
end

section
open PySem PySem.W PyProof.Rows PySem.Calls PySem.Spec
set_option maxRecDepth 100000
namespace Mine
section
variable {c : Cx} {env : Env} {n : Nat} {Γ : Gm} {σ : St} {Φ : V → St → Prop} {Ψ : Fl → Gm → St → Prop}
noncomputable def pageE (j : Nat) : List (Str × V) := [(Str.ofString "Type", nameV "Page"), (Str.ofString "Parent", refV 2 0), (Str.ofString "Mark", .int j)]
noncomputable def kidV (j : Nat) : V := refV (3 + j) 0
noncomputable def kidsV (m : Nat) : List V := (List.range m).map kidV
noncomputable def nodeE (m : Nat) : List (Str × V) := [(Str.ofString "Type", nameV "Pages"), (Str.ofString "Kids", .list (kidsV m)), (Str.ofString "Count", .int m)]
/-- the pages of the shelf are as _law_shelf makes them -/
structure Pg (w : World) (tbl : List (Int × V)) (tr : List (Str × V)) (m : Nat) : Prop where
  root : ∃ re, Fet w tbl ((dl tr (Str.ofString "Root")).getD .none) (.ds re) ∧ dl re (Str.ofString "Pages") = some (refV 2 0)
  node : dl tbl 2 = some (.tup [.int 0, .ds (nodeE m)])
  kid : ∀ j : Nat, j < m → dl tbl (3 + j) = some (.tup [.int 0, .ds (pageE j)])
  small : m ≤ 3
noncomputable def rootT : V := .tup [refV 2 0, .tup [], .ds []]
noncomputable def kidT (j : Nat) : V := .tup [kidV j, .tup [refV 2 0], .ds []]
noncomputable def rootS (m : Nat) : V := spotV (refV 2 0) (.ds (nodeE m)) (.tup []) (.ds []) (.bool false)
noncomputable def kidS (j : Nat) : V := spotV (kidV j) (.ds (pageE j)) (.tup [refV 2 0]) (.ds []) (.bool true)
theorem noInh_node {m : Nat} : NoInh (nodeE m) := by
  intro d hd
  simp only [inhK, List.mem_cons, List.mem_nil_iff, or_false] at hd
  rcases hd with rfl | rfl | rfl | rfl <;> exact ⟨_, rfl, rfl⟩
theorem noInh_page {j : Nat} : NoInh (pageE j) := by
  intro d hd
  simp only [inhK, List.mem_cons, List.mem_nil_iff, or_false] at hd
  rcases hd with rfl | rfl | rfl | rfl <;> exact ⟨_, rfl, rfl⟩
theorem at3 {α : Type} (σ : List α) (x y z : α) : (σ ++ [x, y, z])[σ.length]? = some x ∧ (σ ++ [x, y, z])[σ.length + 1]? = some y ∧ (σ ++ [x, y, z])[σ.length + 2]? = some z := by simp
theorem set3 {α : Type} (σ : List α) (x y z w : α) : (σ ++ [x, y, z]).set σ.length w = σ ++ [w, y, z] ∧ (σ ++ [x, y, z]).set (σ.length + 1) w = σ ++ [x, w, z] ∧ (σ ++ [x, y, z]).set (σ.length + 2) w = σ ++ [x, y, w] := by
  refine ⟨?_, ?_, ?_⟩ <;> (rw [List.set_append_right _ _ (by omega)]; simp)
noncomputable def seenD (q : Nat) : List (Int × V) := (2, .bool true) :: (List.range q).map fun (j : Nat) => ((3 : Int) + (j : Int), V.bool true)
noncomputable def foundD (m q : Nat) : List V := rootS m :: (List.range q).map kidS
noncomputable def lineD (m q : Nat) : List V := ((List.range' q (m - q)).map kidT).reverse
/-- the state of the walk over the pages -/
noncomputable def SpSt (a1 a2 a3 : Addr) (σ : St) (m : Nat) (k : Nat) (σ' : St) : Prop :=
  (k = m + 2 ∧ σ' = σ ++ [(a1, .list []), (a2, .dict .i []), (a3, .list [rootT])]) ∨ ∃ q, q ≤ m ∧ k = m + 1 - q ∧ σ' = σ ++ [(a1, .list (foundD m q)), (a2, .dict .i (seenD q)), (a3, .list (lineD m q))]
theorem dl_seen {q r : Nat} : ∀ (l : List Nat), (∀ j ∈ l, j ≠ r) → dl (l.map fun (j : Nat) => ((3 : Int) + (j : Int), V.bool true)) (3 + (r : Int)) = none
  | [], _ => rfl
  | j :: l, h => by
    rw [List.map_cons]
    unfold dl
    rw [if_neg (by have := h j (.head _); omega)]
    exact dl_seen (q := q) l fun x hx => h x (.tail _ hx)
theorem dput_seen {r : Nat} : ∀ (l : List Nat), (∀ j ∈ l, j ≠ r) → dput (l.map fun (j : Nat) => ((3 : Int) + (j : Int), V.bool true)) (3 + (r : Int)) (.bool true) = (l ++ [r]).map fun (j : Nat) => ((3 : Int) + (j : Int), V.bool true)
  | [], _ => rfl
  | j :: l, h => by
    rw [List.map_cons]
    unfold dput
    rw [if_neg (by have := h j (.head _); omega), dput_seen l fun x hx => h x (.tail _ hx)]
    rfl
theorem seen_next (q : Nat) : dl (seenD q) (3 + (q : Int)) = none ∧ dput (seenD q) (3 + (q : Int)) (.bool true) = seenD (q + 1) := by
  have hr : ∀ j ∈ List.range q, j ≠ q := fun j hj => by have := List.mem_range.mp hj; omega
  unfold seenD
  constructor
  · unfold dl; rw [if_neg (by omega)]; exact dl_seen (q := q) _ hr
  · unfold dput; rw [if_neg (by omega), dput_seen _ hr, List.range_succ]
theorem line_next {m q : Nat} (h : q < m) : lineD m q = lineD m (q + 1) ++ [kidT q] := by
  unfold lineD
  have e : m - q = (m - (q + 1)) + 1 := by omega
  rw [e, List.range'_succ, List.map_cons, List.reverse_cons]
theorem found_next (m q : Nat) : foundD m q ++ [kidS q] = foundD m (q + 1) := by
  unfold foundD
  rw [List.range_succ, List.map_append]; rfl
end
end Mine
end

section
open PySem PySem.W PyProof.Rows PySem.Calls PySem.Spec
set_option maxRecDepth 100000
namespace Mine
section
variable {c : Cx} {env : Env} {n : Nat} {Γ : Gm} {σ : St} {Φ : V → St → Prop} {Ψ : Fl → Gm → St → Prop}
/-- the cells behind σ₀ are dropped, one of them frozen -/
theorem xs_frz {σ₀ τ : St} {a : Addr} {m : MO} {D : V} (e : (a, m) ∈ τ) (hf : frozen m = some D) {Γ' : Gm} (hg : ImpG c.w a D Γ Γ') {t : Sem Flow} (h : XV c env n Γ' σ₀ t Ψ) : XV c env n Γ (σ₀ ++ τ) t Ψ := by
  refine ⟨fun A own s Q E ar bd k => ?_⟩
  obtain ⟨j, hj⟩ := List.getElem?_of_mem (List.mem_append_right σ₀ e)
  have hna : a ∉ adr σ₀ := fun q => by
    have nd := bd.ow.nd
    rw [adr, List.map_append, List.nodup_append] at nd
    exact nd.2.2 _ q _ (List.mem_map_of_mem e) rfl
  have hsub : (adr σ₀).Sublist (adr (σ₀ ++ τ)) := by rw [adr, adr, List.map_append]; exact List.sublist_append_left _ _
  obtain ⟨bd', st'⟩ := bd.freeze hj hf hg (σ' := σ₀) (fun p hp => ⟨p.2, List.mem_append_left _ hp, .same _⟩) hsub hna
  exact h.run A _ s Q E ar bd' fun f fl Γ₂ σ₂ own₂ h₂ tk₂ p₂ bd₂ st₂ r₂ => k f fl Γ₂ σ₂ own₂ h₂ tk₂ p₂ bd₂ (st'.trans st₂ bd.ow.old) r₂
noncomputable def kidF (d : V) : V := .tup [d, .tup [refV 2 0], .ds []]
theorem kids_line (m : Nat) : [] ++ (kidsV m).reverse.map kidF = lineD m 0 := by
  rw [List.nil_append, lineD, kidsV, List.map_reverse, List.map_map, Nat.sub_zero, List.range_eq_range']; rfl
theorem c_spots {tbl : List (Int × V)} {tr : List (Str × V)} {m : Nat} (pg : Pg c.w tbl tr m) (p : Φ (.list (foundD m m)) σ) : FC c (n + 5) (.ref 443) [shelfV (.di tbl) (.ds tr)] σ Φ := by
  obtain ⟨re, hre, hpa⟩ := pg.root
  have hPP : (!(Str.ofString "Pages" == Str.ofString "Pages")) = false := by decide +kernel
  have hPQ : (!(Str.ofString "Page" == Str.ofString "Pages")) = true := by decide +kernel
  have hm := pg.small
  refine' fc_def ?ho ?hcd [Str.ofString "shelf"] ?hb ?hl ?hx ?hkd ?hnd ?_ ?h1 ?h2 ?h3
  case ho => k_is
  case hcd => k_is
  case hl => rfl
  case hx => decide +kernel
  case hkd => kernel_rfl!
  case hnd => decide +kernel
  case h1 => rfl
  case h2 => rfl
  case h3 => rfl
  case hb =>
    intro s vs X hv
    obtain ⟨u0, rfl⟩ := len1 hv
    first | exact BindsTo.of_eq rfl | exact kp_binds (K := HpK c.w.params) X (fun S => by kernel_rfl!)
  intro L
  refine xs_cons (x_assign (ev_listC (lv_nil ⟨?_, fun a1 => ?_⟩)) (by kernel_rfl!))
  · rw [sizeLine_eq]; simp
  refine xs_cons (x_assign (ev_dict0C .i fun a2 => ?_) (by kernel_rfl!))
  refine xs_cons (x_assign (ev_listC (lv_cons (ev_tup (lv_cons ?_)))) (by kernel_rfl!))
  refine ev_methB (ev_meth0 (ev_var rfl ⟨355, ⟨⟨363, _, rfl, rfl, by k_is, by k_is⟩, by k_is, by k_is⟩, FC.cv (c_root hre ?_)⟩))
  refine ⟨_, mok_get .s IsD.frS, lv_cons (ev_str (lv_nil (cv_get .s IsD.frS rfl ?_)))⟩
  rw [hpa, Option.getD_some]
  refine lv_cons (ev_tup (lv_nil ⟨?_, lv_cons (ev_dict0 .s (lv_nil ⟨?_, lv_nil ⟨?_, fun a3 => ?_⟩⟩))⟩))
  · rw [sizeLine_eq]; simp
  · rw [sizeLine_eq]; simp
  · rw [sizeLine_eq]; simp
  rw [List.append_assoc, List.append_assoc]
  refine xs_cons (x_while (fun k Γ' σ' => Γ'.lookup (Str.ofString "found") = some (.cell a1) ∧ Γ'.lookup (Str.ofString "seen") = some (.cell a2) ∧ Γ'.lookup (Str.ofString "line") = some (.cell a3) ∧ Γ'.lookup (Str.ofString "shelf") = some (shelfV (.di tbl) (.ds tr)) ∧ SpSt a1 a2 a3 σ m k σ') (m + 2) ⟨rfl, rfl, rfl, rfl, .inl ⟨rfl, rfl⟩⟩ ?_)
  rintro k Γ' σ' ⟨g1, g2, g3, g4, ⟨rfl, rfl⟩ | ⟨q, hq, rfl, rfl⟩⟩
  · obtain ⟨s0, s1, s2⟩ := at3 σ (a1, MO.list []) (a2, MO.dict .i []) (a3, MO.list [rootT])
    refine tv_plain (ev_var g3 (t1_list (IsLs.at_ _ s2) (by simp) ?_))
    refine xs_cons (x_assignT (ev_methB0 (ev_var g3 ⟨_, mok_list (IsLs.at_ _ s2) PySem.F.slot_list_pop PySem.F.type_list_pop, cv_pop (ds := []) (x := rootT) _ s2 (by simp) ?_⟩)))
    rw [(set3 _ _ _ _ _).2.2]
    refine ⟨_, av_tuple rfl rfl (.cons (av_name (by kernel_rfl!)) (.cons (av_name (by kernel_rfl!)) (.cons (av_name (by kernel_rfl!)) .nil))), ?_⟩
    refine xs_cons (x_assign (ev_call (by k_is) (by kernel_rfl!) (by k_is) ?_) (by kernel_rfl!))
    refine lv_cons (ev_var g4 (lv_cons (ev_var rfl (lv_cons (ev_var rfl (lv_cons (ev_var rfl (lv_nil (FC.cv (c_met pg.node rfl (.inl rfl) noInh_node ?_))))))))))
    rw [hPP]
    obtain ⟨s0, s1, s2⟩ := at3 σ (a1, MO.list []) (a2, MO.dict .i []) (a3, MO.list [])
    refine xs_cons (x_if (tv_or (tv_cmp ?_)))
    refine ev_attr (ev_va rfl rfl (by k_is) (by k_is) (by k_is) (by k_is) (p1_attr rfl (by k_is) (by k_is) (by k_is) (by k_is) (ev_var g2 (p2_in .i (IsD.at_ _ s1) rfl ⟨_, rfl, ?_⟩))))
    refine tv_or (tv_and (tv_cmp (ev_var g1 (ev_list (lv_nil ⟨?_, p2_eqL (IsLs.at_ _ s0) IsLs.fr (b := true) rfl (by simp [vdeps]) ⟨_, rfl, ?_⟩⟩)))))
    · rw [sizeLine_eq]; simp
    refine tv_and (tv_plain (ev_va rfl rfl (by k_is) (by k_is) (by k_is) (by k_is) (t1_bool ?_)))
    refine tv_or_nil ?_
    refine xs_nil ?_
    refine xs_cons (x_setitem (ev_true (ev_var g2 (ev_attr (ev_va rfl rfl (by k_is) (by k_is) (by k_is) (by k_is) (p1_attr rfl (by k_is) (by k_is) (by k_is) (by k_is) (s3_dict .i _ s1 rfl (by simp) ?_)))))))
    rw [(set3 _ _ _ _ _).2.1]
    obtain ⟨s0, s1, s2⟩ := at3 σ (a1, MO.list []) (a2, MO.dict .i (dput [] (2 : Int) (V.bool true))) (a3, MO.list [])
    refine xs_cons (x_expr (ev_methB (ev_var g1 ⟨_, mok_list (IsLs.at_ _ s0) PySem.F.slot_list_append PySem.F.type_list_append, lv_cons (ev_var rfl (lv_nil (cv_append _ s0 (by simp) ?_)))⟩)))
    rw [(set3 _ _ _ _ _).1]
    refine xs_cons (x_if (tv_not (tv_plain (ev_va rfl rfl (by k_is) (by k_is) (by k_is) (by k_is) (t1_bool ?_)))))
    refine xs_cons (x_for (ie_rev (by k_is) rfl (by kernel_rfl!) (ev_call (by k_is) (by kernel_rfl!) (by k_is) (lv_cons (ev_var g4 (lv_cons (ev_va rfl rfl (by k_is) (by k_is) (by k_is) (by k_is) (lv_nil (FC.cv (c_kids rfl ⟨_, rfl, ?_⟩))))))))))
    refine ⟨fun rem Γ₂ σ₂ => Γ₂.lookup (Str.ofString "found") = some (.cell a1) ∧ Γ₂.lookup (Str.ofString "seen") = some (.cell a2) ∧ Γ₂.lookup (Str.ofString "line") = some (.cell a3) ∧ Γ₂.lookup (Str.ofString "shelf") = some (shelfV (.di tbl) (.ds tr)) ∧ Γ₂.lookup (Str.ofString "above") = some (.tup []) ∧ Γ₂.lookup (Str.ofString "spot") = some (rootS m) ∧
      rem.length ≤ 3 ∧ ∃ L, L ++ rem.map kidF = lineD m 0 ∧ σ₂ = σ ++ [(a1, .list (foundD m 0)), (a2, .dict .i (seenD 0)), (a3, .list L)], ⟨g1, g2, g3, g4, rfl, rfl, by simp [kidsV]; omega, [], kids_line m, rfl⟩, fun d r Γ₂ σ₂ q => ?_, fun Γ₂ σ₂ q => ?_⟩
    · obtain ⟨e1, e2, e3, e4, e5, e6, e7, Ln, e8, rfl⟩ := q
      refine ⟨_, av_name (by kernel_rfl!), ?_⟩
      obtain ⟨s0, s1, s2⟩ := at3 σ (a1, MO.list (foundD m 0)) (a2, MO.dict .i (seenD 0)) (a3, MO.list Ln)
      have hLn : Ln.length ≤ 3 := by
        have := congrArg List.length e8
        simp [lineD] at this
        omega
      refine xs_cons (x_expr (ev_methB (ev_var e3 ⟨_, mok_list (IsLs.at_ _ s2) PySem.F.slot_list_append PySem.F.type_list_append, ?_⟩)))
      refine lv_cons (ev_tup (lv_cons (ev_var rfl (lv_cons (ev_binop (ev_var e5 (ev_tup (lv_cons (ev_va e6 rfl (by k_is) (by k_is) (by k_is) (by k_is) (lv_nil ⟨?_, p2_addT0 ?_⟩))))))))))
      · rw [sizeLine_eq]; simp
      refine lv_cons (ev_va e6 rfl (by k_is) (by k_is) (by k_is) (by k_is) (lv_nil ⟨?_, lv_nil (cv_append _ s2 (by omega) ?_)⟩))
      · rw [sizeLine_eq]; simp
      rw [(set3 _ _ _ _ _).2.2]
      refine xs_nil ⟨e1, e2, e3, e4, e5, e6, by simp at e7; omega, Ln ++ [kidF d], ?_, rfl⟩
      rw [← e8]; simp
    · obtain ⟨e1, e2, e3, e4, e5, e6, e7, Ln, e8, rfl⟩ := q
      rw [List.map_nil, List.append_nil] at e8
      subst e8
      refine xs_nil ?_
      exact xs_nil ⟨m + 1, by omega, e1, e2, e3, e4, .inr ⟨0, by omega, rfl, rfl⟩⟩
  · obtain ⟨s0, s1, s2⟩ := at3 σ (a1, MO.list (foundD m q)) (a2, MO.dict .i (seenD q)) (a3, MO.list (lineD m q))
    have hz : (lineD m q).length ≤ 3 := by simp [lineD]; omega
    refine tv_plain (ev_var g3 (t1_list (IsLs.at_ _ s2) (by omega) ?_))
    by_cases hqm : q < m
    · have hl := line_next hqm
      have hne : (!(lineD m q).isEmpty) = true := by rw [hl]; simp
      rw [hne, if_pos rfl]
      rw [hl] at s2 ⊢
      refine xs_cons (x_assignT (ev_methB0 (ev_var g3 ⟨_, mok_list (IsLs.at_ _ s2) PySem.F.slot_list_pop PySem.F.type_list_pop, cv_pop _ s2 (by simp [lineD]; omega) ?_⟩)))
      rw [(set3 _ _ _ _ _).2.2]
      refine ⟨_, av_tuple rfl rfl (.cons (av_name (by kernel_rfl!)) (.cons (av_name (by kernel_rfl!)) (.cons (av_name (by kernel_rfl!)) .nil))), ?_⟩
      refine xs_cons (x_assign (ev_call (by k_is) (by kernel_rfl!) (by k_is) ?_) (by kernel_rfl!))
      refine lv_cons (ev_var g4 (lv_cons (ev_var rfl (lv_cons (ev_var rfl (lv_cons (ev_var rfl (lv_nil (FC.cv (c_met (pg.kid q hqm) rfl (.inr rfl) noInh_page ?_))))))))))
      rw [hPQ]
      obtain ⟨s0, s1, s2⟩ := at3 σ (a1, MO.list (foundD m q)) (a2, MO.dict .i (seenD q)) (a3, MO.list (lineD m (q + 1)))
      obtain ⟨sn1, sn2⟩ := seen_next q
      refine xs_cons (x_if (tv_or (tv_cmp ?_)))
      refine ev_attr (ev_va rfl rfl (by k_is) (by k_is) (by k_is) (by k_is) (p1_attr rfl (by k_is) (by k_is) (by k_is) (by k_is) (ev_var g2 (p2_in .i (IsD.at_ _ s1) rfl ⟨_, rfl, ?_⟩))))
      rw [sn1]
      refine tv_or (tv_and (tv_cmp (ev_var g1 (ev_list (lv_nil ⟨?_, p2_eqL (IsLs.at_ _ s0) IsLs.fr (b := false) rfl ?_ ⟨_, rfl, ?_⟩⟩)))))
      · rw [sizeLine_eq]; simp
      · exact Nat.le_trans (vdeps_all (b := 0) fun d hd => by
          rcases List.mem_cons.mp hd with rfl | hd
          · simp [rootS, vdep]
          · obtain ⟨j, _, rfl⟩ := List.mem_map.mp hd; simp [kidS, vdep]) (by omega)
      refine tv_or_nil ?_
      refine xs_nil ?_
      refine xs_cons (x_setitem (ev_true (ev_var g2 (ev_attr (ev_va rfl rfl (by k_is) (by k_is) (by k_is) (by k_is) (p1_attr rfl (by k_is) (by k_is) (by k_is) (by k_is) (s3_dict .i _ s1 rfl (by simp [seenD]; omega) ?_)))))))
      rw [(set3 _ _ _ _ _).2.1, sn2]
      obtain ⟨s0, s1, s2⟩ := at3 σ (a1, MO.list (foundD m q)) (a2, MO.dict .i (seenD (q + 1))) (a3, MO.list (lineD m (q + 1)))
      refine xs_cons (x_expr (ev_methB (ev_var g1 ⟨_, mok_list (IsLs.at_ _ s0) PySem.F.slot_list_append PySem.F.type_list_append, lv_cons (ev_var rfl (lv_nil (cv_append _ s0 (by simp [foundD]; omega) ?_)))⟩)))
      rw [(set3 _ _ _ _ _).1]
      refine xs_cons (x_if (tv_not (tv_plain (ev_va rfl rfl (by k_is) (by k_is) (by k_is) (by k_is) (t1_bool ?_)))))
      refine xs_nil ?_
      refine xs_nil ⟨m + 1 - (q + 1), by omega, g1, g2, g3, g4, .inr ⟨q + 1, by omega, rfl, ?_⟩⟩
      rw [← found_next]; rfl
    · have hq' : q = m := by omega
      subst hq'
      have he : (!(lineD q q).isEmpty) = false := by simp [lineD]
      rw [he, if_neg Bool.false_ne_true]
      exact xs_frz (a := a1) (m := .list (foundD q q)) (by simp) rfl (Γ' := [(Str.ofString "found", .list (foundD q q))]) ⟨⟨_, g1, .cell⟩, trivial⟩ (xs_cons (x_ret (ev_var rfl ⟨_, σ, .inl rfl, List.Sublist.refl _, p⟩)))
end
end Mine
end

section
open PySem PySem.W PyProof.Rows PySem.Calls PySem.Spec
set_option maxRecDepth 100000
namespace Mine
section
variable {c : Cx} {env : Env} {n : Nat} {Γ : Gm} {σ : St} {Φ : V → St → Prop} {Ψ : Fl → Gm → St → Prop}
theorem c_fields {tb tr a d f : V} {es : List (Str × V)} (hz : es.length ≤ 100) (p : Φ (.ds es) σ) : FC c (n + 1) (.ref 450) [shelfV tb tr, spotV a (.ds es) d (.ds []) f] σ Φ := by
  refine' fc_def ?ho ?hcd [Str.ofString "shelf", Str.ofString "spot"] ?hb ?hl ?hx ?hkd ?hnd ?_ ?h1 ?h2 ?h3
  case ho => k_is
  case hcd => k_is
  case hl => rfl
  case hx => decide +kernel
  case hkd => kernel_rfl!
  case hnd => decide +kernel
  case h1 => rfl
  case h2 => rfl
  case h3 => rfl
  case hb =>
    intro s vs X hv
    obtain ⟨u0, u1, rfl⟩ := len2 hv
    first | exact BindsTo.of_eq rfl | exact kp_binds (K := HpK c.w.params) X (fun S => by kernel_rfl!)
  intro L
  refine xs_cons (x_assign (ev_callT (by k_is) rfl (by kernel_rfl!) (lv_cons (ev_va rfl rfl (by k_is) (by k_is) (by k_is) (by k_is) (lv_nil (cv_dictF .s IsD.frS (by omega) ?_))))) (by kernel_rfl!))
  refine xs_cons (x_for (ie_of (ev_globD (d := .tup inhK) (by k_is) (by kernel_rfl!) (fun h X => inh_is X) ⟨_, iv_tuple, ?_⟩)))
  refine ⟨fun rem Γ' σ' => Γ'.lookup (Str.ofString "spot") = some (spotV a (.ds es) d (.ds []) f) ∧ Γ'.lookup (Str.ofString "found") = some (.ds es) ∧ σ' = σ ∧ ∀ d ∈ rem, d ∈ inhK, ⟨rfl, rfl, rfl, fun d hd => hd⟩, fun e r Γ' σ' q => ?_, fun Γ' σ' q => ?_⟩
  · obtain ⟨g1, g2, rfl, q⟩ := q
    obtain ⟨k, rfl, hk⟩ := noInh_page (j := 0) e (q e (.head _))
    refine ⟨_, av_name (by kernel_rfl!), ?_⟩
    refine xs_cons (x_if (tv_and (tv_cmp (ev_var rfl (ev_va g1 rfl (by k_is) (by k_is) (by k_is) (by k_is) (p2_in .s IsD.frS rfl ⟨_, rfl, ?_⟩))))))
    exact xs_nil (xs_nil ⟨g1, g2, rfl, fun x hx => q x (.tail _ hx)⟩)
  · obtain ⟨g1, g2, rfl, q⟩ := q
    exact xs_cons (x_ret (ev_var g2 (ret_ok p)))
theorem c_page_spots {tbl : List (Int × V)} {tr : List (Str × V)} {m : Nat} (pg : Pg c.w tbl tr m) (p : Φ (.list ((List.range m).map kidS)) σ) : FC c (n + 6) (.ref 455) [shelfV (.di tbl) (.ds tr)] σ Φ := by
  have hm := pg.small
  refine' fc_def ?ho ?hcd [Str.ofString "shelf"] ?hb ?hl ?hx ?hkd ?hnd ?_ ?h1 ?h2 ?h3
  case ho => k_is
  case hcd => k_is
  case hl => rfl
  case hx => decide +kernel
  case hkd => kernel_rfl!
  case hnd => decide +kernel
  case h1 => rfl
  case h2 => rfl
  case h3 => rfl
  case hb =>
    intro s vs X hv
    obtain ⟨u0, rfl⟩ := len1 hv
    first | exact BindsTo.of_eq rfl | exact kp_binds (K := HpK c.w.params) X (fun S => by kernel_rfl!)
  intro L
  refine xs_cons (x_ret (ev_comp (cl := []) rfl (by decide) rfl (by decide) (by decide) (fun p hp => nomatch hp) (by simp) [] trivial rfl ?_))
  refine ie_of (ev_call (by k_is) (by kernel_rfl!) (by k_is) (lv_cons (ev_var rfl (lv_nil (FC.cv (c_spots pg ⟨_, iv_list, ?_⟩))))))
  refine ⟨fun rem acc σ' => σ' = σ ∧ acc.length + rem.length ≤ 4 ∧ ((rem = foundD m m ∧ acc = []) ∨ ∃ q, q ≤ m ∧ rem = (List.range' q (m - q)).map kidS ∧ acc = (List.range q).map kidS), ⟨rfl, by simp [foundD]; omega, .inl ⟨rfl, rfl⟩⟩, ⟨fun rem acc σ' q => by omega, fun d r acc σ' C q => ?_⟩, fun acc σ' q => ?_⟩
  · obtain ⟨rfl, hz, ⟨q1, rfl⟩ | ⟨q, hq, q1, rfl⟩⟩ := q
    · unfold foundD at q1
      injection q1 with q1 q2
      subst q1 q2
      refine tl_one (tv_plain (ev_va (d := .bool false) (fs := [(Str.ofString "reference", refV 2 0), (Str.ofString "head", .ds (nodeE m)), (Str.ofString "above", .tup []), (Str.ofString "inherited", .ds []), (Str.ofString "is_page", .bool false)]) rfl rfl (by k_is) (by k_is) (by k_is) (by k_is) (t1_bool ?_)))
      rw [if_neg Bool.false_ne_true]
      exact ⟨rfl, by simp; omega, .inr ⟨0, by omega, by rw [Nat.sub_zero, List.range_eq_range'], rfl⟩⟩
    · have hqm : q < m := by
        cases Nat.lt_or_ge q m with
        | inl h => exact h
        | inr h => rw [Nat.sub_eq_zero_of_le h] at q1; cases q1
      have e : m - q = (m - (q + 1)) + 1 := by omega
      rw [e, List.range'_succ, List.map_cons] at q1
      injection q1 with q1 q2
      subst q1 q2
      refine tl_one (tv_plain (ev_va (d := .bool true) (fs := [(Str.ofString "reference", kidV q), (Str.ofString "head", .ds (pageE q)), (Str.ofString "above", .tup [refV 2 0]), (Str.ofString "inherited", .ds []), (Str.ofString "is_page", .bool true)]) rfl rfl (by k_is) (by k_is) (by k_is) (by k_is) (t1_bool ?_)))
      rw [if_pos rfl]
      refine ev_var (d := kidS q) rfl ⟨rfl, by simp at hz ⊢; omega, .inr ⟨q + 1, by omega, rfl, ?_⟩⟩
      rw [List.range_succ, List.map_append]; rfl
  · obtain ⟨rfl, hz, ⟨q1, rfl⟩ | ⟨q, hq, q1, rfl⟩⟩ := q
    · cases q1
    · have : m - q = 0 := by
        have := congrArg List.length q1
        simp at this; omega
      have : q = m := by omega
      subst this
      exact (ret_ok p)
noncomputable def pageS (j : Nat) : V := pageV (kidV j) (.ds (pageE j))
theorem c_pages {tbl : List (Int × V)} {tr : List (Str × V)} {m : Nat} (pg : Pg c.w tbl tr m) (p : Φ (.list ((List.range m).map pageS)) σ) : FC c (n + 7) (.ref 460) [shelfV (.di tbl) (.ds tr)] σ Φ := by
  have hm := pg.small
  refine' fc_def ?ho ?hcd [Str.ofString "shelf"] ?hb ?hl ?hx ?hkd ?hnd ?_ ?h1 ?h2 ?h3
  case ho => k_is
  case hcd => k_is
  case hl => rfl
  case hx => decide +kernel
  case hkd => kernel_rfl!
  case hnd => decide +kernel
  case h1 => rfl
  case h2 => rfl
  case h3 => rfl
  case hb =>
    intro s vs X hv
    obtain ⟨u0, rfl⟩ := len1 hv
    first | exact BindsTo.of_eq rfl | exact kp_binds (K := HpK c.w.params) X (fun S => by kernel_rfl!)
  intro L
  refine xs_cons (x_ret (ev_comp (cl := [(Str.ofString "shelf", L + 1)]) ?hclos (by decide) rfl (by decide) (by decide) ?hcl (by simp) [(Str.ofString "shelf", shelfV (.di tbl) (.ds tr))] ⟨⟨rfl, by kernel_rfl!, _, rfl, rfl⟩, trivial⟩ rfl ?_))
  case hclos => rfl
  case hcl =>
    intro p hp
    cases hp with
    | head => rfl
    | tail _ hp => cases hp
  refine ie_of (ev_call (by k_is) (by kernel_rfl!) (by k_is) (lv_cons (ev_var rfl (lv_nil (FC.cv (c_page_spots pg ⟨_, iv_list, ?_⟩))))))
  refine ⟨fun rem acc σ' => σ' = σ ∧ ∃ q, q ≤ m ∧ rem = (List.range' q (m - q)).map kidS ∧ acc = (List.range q).map pageS, ⟨rfl, 0, by omega, by rw [Nat.sub_zero, List.range_eq_range'], rfl⟩, ⟨fun rem acc σ' q => ?_, fun d r acc σ' C q => ?_⟩, fun acc σ' q => ?_⟩
  · obtain ⟨_, q, h1, _, h2⟩ := q
    rw [h2]; simp; omega
  · obtain ⟨rfl, q, hq, q1, rfl⟩ := q
    have hqm : q < m := by
      cases Nat.lt_or_ge q m with
      | inl h => exact h
      | inr h => rw [Nat.sub_eq_zero_of_le h] at q1; cases q1
    have e : m - q = (m - (q + 1)) + 1 := by omega
    rw [e, List.range'_succ, List.map_cons] at q1
    injection q1 with q1 q2
    subst q1 q2
    refine tl_nil ?_
    rw [if_pos rfl]
    refine ev_call (by k_is) (by kernel_rfl!) (by k_is) (lv_cons (ev_va (d := kidV q) (fs := [(Str.ofString "reference", kidV q), (Str.ofString "head", .ds (pageE q)), (Str.ofString "above", .tup [refV 2 0]), (Str.ofString "inherited", .ds []), (Str.ofString "is_page", .bool true)]) rfl rfl (by k_is) (by k_is) (by k_is) (by k_is) ?_))
    refine lv_cons (ev_call (by k_is) (by kernel_rfl!) (by k_is) (lv_cons (ev_var rfl (lv_cons (ev_var (d := kidS q) rfl (lv_nil (FC.cv (c_fields (by simp [pageE]) ?_))))))))
    refine lv_nil (FC.cv (c_Page ⟨rfl, q + 1, by omega, rfl, ?_⟩))
    rw [List.range_succ, List.map_append]; rfl
  · obtain ⟨rfl, q, hq, q1, rfl⟩ := q
    have : m - q = 0 := by
      have := congrArg List.length q1
      simp at this; omega
    have : q = m := by omega
    subst this
    exact (ret_ok p)
end
end Mine
end

section
open PySem PySem.W PyProof.Rows PySem.Calls PySem.Spec
set_option maxRecDepth 100000
namespace Mine
section
variable {c : Cx} {env : Env} {n : Nat} {Γ : Gm} {σ : St} {Φ : V → St → Prop} {Ψ : Fl → Gm → St → Prop}
noncomputable def rowP (m : Nat) : List V := (List.range m).map fun (j : Nat) => V.tup [.int (3 + (j : Int)), .int 0]
theorem veq_pair {a b i g : Int} : veq (.tup [.int a, .int b]) (.tup [.int i, .int g]) = some ((a == i) && ((b == g) && true)) := rfl
theorem rowP_any {m : Nat} {i g : Int} : ((rowP m).any fun y => (veq y (.tup [.int i, .int g])).getD false) = decide (g = 0 ∧ 3 ≤ i ∧ i < 3 + m) := by
  unfold rowP
  rw [List.any_map, Bool.eq_iff_iff, List.any_eq_true, decide_eq_true_eq]
  constructor
  · rintro ⟨j, hj, h⟩
    have hj := List.mem_range.mp hj
    simp [veq_pair] at h
    omega
  · rintro ⟨h1, h2, h3⟩
    refine ⟨(i - 3).toNat, List.mem_range.mpr (by omega), ?_⟩
    simp [veq_pair]
    omega
theorem c_pix1 {tb tr d a b : V} (h : NR c.w d) (p : Φ (.int (-1)) σ) : FC c (n + 1) (.ref 592) [shelfV tb tr, targetV d a b] σ Φ := by
  refine' fc_def ?ho ?hcd [Str.ofString "shelf", Str.ofString "target"] ?hb ?hl ?hx ?hkd ?hnd ?_ ?h1 ?h2 ?h3
  case ho => k_is
  case hcd => k_is
  case hl => rfl
  case hx => decide +kernel
  case hkd => kernel_rfl!
  case hnd => decide +kernel
  case h1 => rfl
  case h2 => rfl
  case h3 => rfl
  case hb =>
    intro s vs X hv
    obtain ⟨u0, u1, rfl⟩ := len2 hv
    first | exact BindsTo.of_eq rfl | exact kp_binds (K := HpK c.w.params) X (fun S => by kernel_rfl!)
  intro L
  refine xs_cons (x_if (tv_not (tv_plain (ev_callB (by k_is) rfl (by kernel_rfl!) (lv_cons (ev_va rfl rfl (by k_is) (by k_is) (by k_is) (by k_is) (lv_cons (ev_glob (by k_is) (by kernel_rfl!) (lv_nil (cv_isi h.1 h.2 (t1_bool ?_)))))))))))
  exact xs_cons (x_ret (ev_unop (ev_int (p1_neg (ret_ok p)))))
theorem c_pix2 {tbl : List (Int × V)} {tr : List (Str × V)} {m : Nat} {i g : Int} {a b : V} (pg : Pg c.w tbl tr m) (p : Φ (.int (if g = 0 ∧ 3 ≤ i ∧ i < 3 + m then i - 3 else -1)) σ) : FC c (n + 8) (.ref 592) [shelfV (.di tbl) (.ds tr), targetV (refV i g) a b] σ Φ := by
  have hm := pg.small
  refine' fc_def ?ho ?hcd [Str.ofString "shelf", Str.ofString "target"] ?hb ?hl ?hx ?hkd ?hnd ?_ ?h1 ?h2 ?h3
  case ho => k_is
  case hcd => k_is
  case hl => rfl
  case hx => decide +kernel
  case hkd => kernel_rfl!
  case hnd => decide +kernel
  case h1 => rfl
  case h2 => rfl
  case h3 => rfl
  case hb =>
    intro s vs X hv
    obtain ⟨u0, u1, rfl⟩ := len2 hv
    first | exact BindsTo.of_eq rfl | exact kp_binds (K := HpK c.w.params) X (fun S => by kernel_rfl!)
  intro L
  refine xs_cons (x_if (tv_not (tv_plain (ev_callB (by k_is) rfl (by kernel_rfl!) (lv_cons (ev_va rfl rfl (by k_is) (by k_is) (by k_is) (by k_is) (lv_cons (ev_glob (by k_is) (by kernel_rfl!) (lv_nil (cv_isi clsOk_ref isref (t1_bool ?_)))))))))))
  refine xs_nil ?_
  refine xs_cons (x_assignComp (cl := []) (by kernel_rfl!) rfl (by decide) rfl (by decide) (by decide) (fun p hp => nomatch hp) (by simp) [] trivial rfl (by kernel_rfl!) ?_)
  refine ie_of (ev_call (by k_is) (by kernel_rfl!) (by k_is) (lv_cons (ev_var rfl (lv_nil (FC.cv (c_pages pg ⟨_, iv_list, ?_⟩))))))
  refine ⟨fun rem acc σ' => σ' = σ ∧ ∃ q, q ≤ m ∧ rem = (List.range' q (m - q)).map pageS ∧ acc = rowP q, ⟨rfl, 0, by omega, by rw [Nat.sub_zero, List.range_eq_range'], rfl⟩, ⟨fun rem acc σ' q => ?_, fun d r acc σ' C q => ?_⟩, fun acc σ' q => ?_⟩
  · obtain ⟨_, q, h1, _, h2⟩ := q
    rw [h2]; simp [rowP]; omega
  · obtain ⟨rfl, q, hq, q1, rfl⟩ := q
    have hqm : q < m := by
      cases Nat.lt_or_ge q m with
      | inl h => exact h
      | inr h => rw [Nat.sub_eq_zero_of_le h] at q1; cases q1
    have e : m - q = (m - (q + 1)) + 1 := by omega
    rw [e, List.range'_succ, List.map_cons] at q1
    injection q1 with q1 q2
    subst q1 q2
    refine tl_nil ?_
    rw [if_pos rfl]
    refine ev_meth0 (ev_va (d := kidV q) (fs := [(Str.ofString "reference", kidV q), (Str.ofString "fields", .ds (pageE q))]) rfl rfl (by k_is) (by k_is) (by k_is) (by k_is) ⟨251, ⟨⟨254, _, rfl, rfl, by k_is, by k_is⟩, by k_is, by k_is⟩, FC.cv (c_pair ⟨rfl, q + 1, by omega, rfl, ?_⟩)⟩)
    unfold rowP
    rw [List.range_succ, List.map_append]; rfl
  · obtain ⟨rfl, q, hq, q1, rfl⟩ := q
    have : m - q = 0 := by
      have := congrArg List.length q1
      simp at this; omega
    have : q = m := by omega
    subst this
    have hv : ∀ y ∈ rowP q, ∃ b, veq y (.tup [.int i, .int g]) = some b := fun y hy => by
      obtain ⟨j, _, rfl⟩ := List.mem_map.mp hy
      exact ⟨_, veq_pair⟩
    have hd : vdeps (rowP q) ≤ 500 := Nat.le_trans (vdeps_all (b := 1) fun d hd => by
      obtain ⟨j, _, rfl⟩ := List.mem_map.mp hd; simp [vdep, vdeps]) (by omega)
    refine xs_cons (x_ret (ev_ifexp (tv_cmp ?_)))
    refine ev_meth0 (ev_va rfl rfl (by k_is) (by k_is) (by k_is) (by k_is) ⟨251, ⟨⟨254, _, rfl, rfl, by k_is, by k_is⟩, by k_is, by k_is⟩, FC.cv (c_pair (ev_var rfl (p2_inL IsLs.fr hv hd ⟨_, rfl, ?_⟩)))⟩)
    rw [rowP_any]
    by_cases hh : g = 0 ∧ 3 ≤ i ∧ i < 3 + q
    · rw [decide_eq_true hh, if_pos rfl]
      rw [if_pos hh] at p
      refine ev_methB (ev_var rfl ⟨_, mok_list IsLs.fr PySem.F.slot_list_index PySem.F.type_list_index, ?_⟩)
      refine lv_cons (ev_meth0 (ev_va rfl rfl (by k_is) (by k_is) (by k_is) (by k_is) ⟨251, ⟨⟨254, _, rfl, rfl, by k_is, by k_is⟩, by k_is, by k_is⟩, FC.cv (c_pair ?_)⟩))
      have hj : (i - 3).toNat < q := by omega
      have hrow : (rowP q)[(i - 3).toNat]? = some (.tup [.int (3 + ((i - 3).toNat : Int)), .int 0]) := by
        unfold rowP; rw [List.getElem?_map, List.getElem?_range hj]; rfl
      refine lv_nil (cv_index (j := (i - 3).toNat) IsLs.fr hv hd (by omega) hrow ?_ ?_ ?_)
      · rw [veq_pair]; simp; omega
      · intro i' z hi' hz
        unfold rowP at hz
        rw [List.getElem?_map, List.getElem?_range (by omega)] at hz
        cases hz
        rw [veq_pair]; simp; omega
      · have : (((i - 3).toNat : Nat) : Int) = i - 3 := by omega
        rw [this]
        exact (ret_ok p)
    · rw [decide_eq_false hh, if_neg Bool.false_ne_true]
      rw [if_neg hh] at p
      exact ev_unop (ev_int (p1_neg (ret_ok p)))
end
end Mine
end

section
open PySem PySem.W PyProof.Rows PySem.Calls PySem.Spec
set_option maxRecDepth 100000
namespace Mine
section
variable {c : Cx} {env : Env} {n : Nat} {Γ : Gm} {σ : St} {Φ : V → St → Prop} {Ψ : Fl → Gm → St → Prop}
theorem c_key_of {b : List UInt8} (p : Φ (.bytes b) σ) : FC c (n + 1) (.ref 467) [.str "Names", stringV b] σ Φ := by
  refine' fc_def ?ho ?hcd [Str.ofString "word", Str.ofString "value"] ?hb ?hl ?hx ?hkd ?hnd ?_ ?h1 ?h2 ?h3
  case ho => k_is
  case hcd => k_is
  case hl => rfl
  case hx => decide +kernel
  case hkd => kernel_rfl!
  case hnd => decide +kernel
  case h1 => rfl
  case h2 => rfl
  case h3 => rfl
  case hb =>
    intro s vs X hv
    obtain ⟨u0, u1, rfl⟩ := len2 hv
    first | exact BindsTo.of_eq rfl | exact kp_binds (K := HpK c.w.params) X (fun S => by kernel_rfl!)
  intro L
  refine xs_cons (x_if (tv_and (tv_cmp (ev_var rfl (ev_str (p2_eqSd (r := true) (by decide +kernel) ⟨_, rfl, ?_⟩))))))
  rw [if_pos rfl]
  refine tv_and (tv_plain (tv_isiG (whole := pure .none) (by k_is) (by kernel_rfl!) (by k_is) (by kernel_rfl!) rfl clsOk_string (b := true) ?_ ?_))
  · dsimp only [typ]; kit_is
  rw [if_pos rfl]
  refine tv_and_nil ?_
  exact xs_cons (x_ret (ev_va rfl rfl (by k_is) (by k_is) (by k_is) (by k_is) (ret_ok p)))
theorem c_node_of {tbl : List (Int × V)} {tr d : V} {es : List (Str × V)} (h : Fet c.w tbl d (.ds es)) (p : Φ (.ds es) σ) : FC c (n + 2) (.ref 474) [shelfV (.di tbl) tr, d] σ Φ := by
  refine' fc_def ?ho ?hcd [Str.ofString "shelf", Str.ofString "value"] ?hb ?hl ?hx ?hkd ?hnd ?_ ?h1 ?h2 ?h3
  case ho => k_is
  case hcd => k_is
  case hl => rfl
  case hx => decide +kernel
  case hkd => kernel_rfl!
  case hnd => decide +kernel
  case h1 => rfl
  case h2 => rfl
  case h3 => rfl
  case hb =>
    intro s vs X hv
    obtain ⟨u0, u1, rfl⟩ := len2 hv
    first | exact BindsTo.of_eq rfl | exact kp_binds (K := HpK c.w.params) X (fun S => by kernel_rfl!)
  intro L
  refine xs_cons (x_assign (ev_sh (f := 299) rfl rfl (by k_is) (by k_is) (by k_is) (by k_is) (lv_cons (ev_var rfl (lv_nil (FC.cv (c_fetch h ?_)))))) (by kernel_rfl!))
  refine xs_cons (x_if (tv_not (tv_plain (tv_isiB (whole := pure .none) (by k_is) (by kernel_rfl!) (by k_is) rfl (by kernel_rfl!) rfl trivial (b := true) ?_ ?_))))
  · dsimp only [typ]; kit_is
  refine xs_nil ?_
  exact xs_cons (x_ret (ev_var rfl (ret_ok p)))
theorem c_row_of {tbl : List (Int × V)} {tr : V} {es : List (Str × V)} {k : Str} {ds : List V} (hl : dl es k = some (.list ds)) (p : Φ (.list ds) σ) : FC c (n + 3) (.ref 481) [shelfV (.di tbl) tr, .ds es, .str k] σ Φ := by
  have hf : Fet c.w tbl ((dl es k).getD .none) (.list ds) := by rw [hl]; exact ⟨nr_list, .inl rfl⟩
  refine' fc_def ?ho ?hcd [Str.ofString "shelf", Str.ofString "node", Str.ofString "key"] ?hb ?hl ?hx ?hkd ?hnd ?_ ?h1 ?h2 ?h3
  case ho => k_is
  case hcd => k_is
  case hl => rfl
  case hx => decide +kernel
  case hkd => kernel_rfl!
  case hnd => decide +kernel
  case h1 => rfl
  case h2 => rfl
  case h3 => rfl
  case hb =>
    intro s vs X hv
    obtain ⟨u0, u1, u2, rfl⟩ := len3 hv
    first | exact BindsTo.of_eq rfl | exact kp_binds (K := HpK c.w.params) X (fun S => by kernel_rfl!)
  intro L
  refine xs_cons (x_assign (ev_sh (f := 306) rfl rfl (by k_is) (by k_is) (by k_is) (by k_is) (lv_cons (ev_var rfl (lv_cons (ev_var rfl (lv_nil (FC.cv (c_get hf ?_)))))))) (by kernel_rfl!))
  refine xs_cons (x_if (tv_not (tv_plain (tv_isiB (whole := pure .none) (by k_is) (by kernel_rfl!) (by k_is) rfl (by kernel_rfl!) rfl trivial (b := true) ?_ ?_))))
  · dsimp only [typ]; kit_is
  refine xs_nil ?_
  exact xs_cons (x_ret (ev_var rfl (ret_ok p)))
noncomputable def flatV (kvs : List (List UInt8 × V)) : List V := kvs.flatMap fun q => [stringV q.1, q.2]
noncomputable def pairV (q : List UInt8 × V) : V := .tup [.bytes q.1, q.2]
theorem flatV_len (kvs : List (List UInt8 × V)) : (flatV kvs).length = 2 * kvs.length := by
  induction kvs with
  | nil => rfl
  | cons q r ih => simp only [flatV, List.flatMap_cons, List.length_append, List.length_cons, List.length_nil] at ih ⊢; omega
theorem flatV_at : ∀ (kvs : List (List UInt8 × V)) (j : Nat) (q : List UInt8 × V), kvs[j]? = some q → (flatV kvs)[2 * j]? = some (stringV q.1) ∧ (flatV kvs)[2 * j + 1]? = some q.2
  | [], j, q, h => by simp at h
  | x :: r, 0, q, h => by
    simp at h; subst h
    simp [flatV]
  | x :: r, j + 1, q, h => by
    have ih := flatV_at r j q (by simpa using h)
    have e : flatV (x :: r) = stringV x.1 :: x.2 :: flatV r := rfl
    have e1 : 2 * (j + 1) = 2 * j + 1 + 1 := by omega
    rw [e, e1, List.getElem?_cons_succ, List.getElem?_cons_succ, List.getElem?_cons_succ, List.getElem?_cons_succ]
    exact ih
theorem c_node_pairs {tbl : List (Int × V)} {tr : V} {es : List (Str × V)} {kvs : List (List UInt8 × V)} (hl : dl es (Str.ofString "Names") = some (.list (flatV kvs))) (hz : kvs.length ≤ 100) (p : Φ (.list (kvs.map pairV)) σ) : FC c (n + 4) (.ref 486) [shelfV (.di tbl) tr, .ds es, .str "Names"] σ Φ := by
  have hfl := flatV_len kvs
  refine' fc_def ?ho ?hcd [Str.ofString "shelf", Str.ofString "node", Str.ofString "word"] ?hb ?hl ?hx ?hkd ?hnd ?_ ?h1 ?h2 ?h3
  case ho => k_is
  case hcd => k_is
  case hl => rfl
  case hx => decide +kernel
  case hkd => kernel_rfl!
  case hnd => decide +kernel
  case h1 => rfl
  case h2 => rfl
  case h3 => rfl
  case hb =>
    intro s vs X hv
    obtain ⟨u0, u1, u2, rfl⟩ := len3 hv
    first | exact BindsTo.of_eq rfl | exact kp_binds (K := HpK c.w.params) X (fun S => by kernel_rfl!)
  intro L
  refine xs_cons (x_if (tv_cmp (ev_var rfl (ev_var rfl (p2_notin .s IsD.frS rfl ⟨_, rfl, ?_⟩)))))
  have hs : (dl es (Str.ofString "Names")).isSome = true := by rw [hl]; rfl
  rw [hs]
  refine xs_nil ?_
  refine xs_cons (x_assign (ev_call (by k_is) (by kernel_rfl!) (by k_is) (lv_cons (ev_var rfl (lv_cons (ev_var rfl (lv_cons (ev_var rfl (lv_nil (FC.cv (c_row_of hl ?_)))))))))) (by kernel_rfl!))
  refine xs_cons (x_if (tv_cmp (ev_binop (ev_callB (by k_is) rfl (by kernel_rfl!) (lv_cons (ev_var rfl (lv_nil (cv_lenL IsLs.fr (by omega) (ev_int (p2_mod (by decide) (ev_int (p2_neid (r := false) ?_ ⟨_, rfl, ?_⟩))))))))))))
  · rw [hfl]; simp
  refine xs_nil ?_
  refine' xs_cons (x_ret (ev_comp (cl := ?cl) ?hclos ?hce rfl ?hnm ?hx ?hcl ?hcn [(Str.ofString "word", .str "Names"), (Str.ofString "shelf", shelfV (.di tbl) tr), (Str.ofString "row", .list (flatV kvs))] ?hcap rfl ?_))
  case hclos => exact rfl
  case hce => decide
  case hnm => decide
  case hx => decide
  case hcn => show List.Nodup [Str.ofString "word", Str.ofString "shelf", Str.ofString "row"]; decide +kernel
  case hcl =>
    intro p hp
    simp only [List.mem_cons, List.mem_nil_iff, or_false] at hp
    rcases hp with rfl | rfl | rfl <;> rfl
  case hcap => exact ⟨⟨rfl, by kernel_rfl!, _, rfl, rfl⟩, ⟨rfl, by kernel_rfl!, _, rfl, rfl⟩, ⟨rfl, by kernel_rfl!, _, rfl, rfl⟩, trivial⟩
  refine ie_range3 (by k_is) rfl (by kernel_rfl!) (lv_cons (ev_int (lv_cons (ev_callB (by k_is) rfl (by kernel_rfl!) (lv_cons (ev_var rfl (lv_nil (cv_lenL IsLs.fr (by omega) (lv_cons (ev_int (lv_nil ⟨kvs.length, ?_, by omega, ?_⟩)))))))))))
  · rw [hfl]
  refine ⟨fun rem acc σ' => σ' = σ ∧ ∃ q, q ≤ kvs.length ∧ rem = (List.range' q (kvs.length - q)).map (fun (j : Nat) => V.int (0 + (j : Int) * 2)) ∧ acc = (kvs.take q).map pairV, ⟨rfl, 0, by omega, by rw [Nat.sub_zero, ← List.range_eq_range']; rfl, by simp⟩, ⟨fun rem acc σ' q => ?_, fun d r acc σ' C q => ?_⟩, fun acc σ' q => ?_⟩
  · obtain ⟨_, q, h1, _, h2⟩ := q
    rw [h2]; simp; omega
  · obtain ⟨rfl, q, hq, q1, rfl⟩ := q
    have hqm : q < kvs.length := by
      cases Nat.lt_or_ge q kvs.length with
      | inl h => exact h
      | inr h => rw [Nat.sub_eq_zero_of_le h] at q1; cases q1
    have e : kvs.length - q = (kvs.length - (q + 1)) + 1 := by omega
    rw [e, List.range'_succ, List.map_cons] at q1
    injection q1 with q1 q2
    subst q1 q2
    have hkv : kvs[q]? = some kvs[q] := List.getElem?_eq_getElem hqm
    obtain ⟨f1, f2⟩ := flatV_at kvs q _ hkv
    have en : ((0 : Int) + (q : Int) * 2).toNat = 2 * q := by omega
    have en1 : ((0 : Int) + (q : Int) * 2 + 1).toNat = 2 * q + 1 := by omega
    refine tl_nil ?_
    rw [if_pos rfl]
    refine ev_tup (lv_cons (ev_call (by k_is) (by kernel_rfl!) (by k_is) (lv_cons (ev_var rfl (lv_cons (ev_sh (f := 299) rfl rfl (by k_is) (by k_is) (by k_is) (by k_is) ?_))))))
    refine lv_cons (ev_sub (ev_var rfl (ev_var rfl (p2_litem (e := stringV kvs[q].1) IsLs.fr (by omega) (by omega) (by rw [en]; exact f1) ?_))))
    refine lv_nil (FC.cv (c_fetch ⟨nr_string, .inl rfl⟩ (lv_nil (FC.cv (c_key_of ?_)))))
    refine lv_cons (ev_sub (ev_var rfl (ev_binop (ev_var rfl (ev_int (p2_add (p2_litem (e := kvs[q].2) IsLs.fr (by omega) (by omega) (by rw [en1]; exact f2) (lv_nil ⟨?_, rfl, q + 1, by omega, rfl, ?_⟩))))))))
    · rw [sizeLine_eq]; simp
    · rw [List.take_succ, List.map_append, hkv]; rfl
  · obtain ⟨rfl, q, hq, q1, rfl⟩ := q
    have : kvs.length - q = 0 := by
      have := congrArg List.length q1
      simp at this; omega
    have : q = kvs.length := by omega
    subst this
    rw [List.take_length]
    exact (ret_ok p)
theorem c_way0 {i g : Int} (p : Φ (.tup [.tup [.int i, .int g]]) σ) : FC c (n + 1) (.ref 500) [.tup [], refV i g] σ Φ := by
  refine' fc_def ?ho ?hcd [Str.ofString "way", Str.ofString "value"] ?hb ?hl ?hx ?hkd ?hnd ?_ ?h1 ?h2 ?h3
  case ho => k_is
  case hcd => k_is
  case hl => rfl
  case hx => decide +kernel
  case hkd => kernel_rfl!
  case hnd => decide +kernel
  case h1 => rfl
  case h2 => rfl
  case h3 => rfl
  case hb =>
    intro s vs X hv
    obtain ⟨u0, u1, rfl⟩ := len2 hv
    first | exact BindsTo.of_eq rfl | exact kp_binds (K := HpK c.w.params) X (fun S => by kernel_rfl!)
  intro L
  refine xs_cons (x_assign (ev_tup (lv_cons (ev_unop (ev_int (p1_neg (lv_cons (ev_unop (ev_int (p1_neg (lv_nil ⟨?_, ?_⟩)))))))))) (by kernel_rfl!))
  · rw [sizeLine_eq]; simp
  refine xs_cons (x_if (tv_plain (tv_isiG (whole := pure .none) (by k_is) (by kernel_rfl!) (by k_is) (by kernel_rfl!) rfl clsOk_ref isref ?_)))
  refine xs_cons (x_assign (ev_tup (lv_cons (ev_va rfl rfl (by k_is) (by k_is) (by k_is) (by k_is) (lv_cons (ev_va rfl rfl (by k_is) (by k_is) (by k_is) (by k_is) (lv_nil ⟨?_, ?_⟩)))))) (by kernel_rfl!))
  · rw [sizeLine_eq]; simp
  refine xs_cons (x_if (tv_cmp (ev_var rfl (ev_var rfl (p2_inT (ds := []) (fun y hy => nomatch hy) (by simp [vdeps]) ⟨_, rfl, ?_⟩)))))
  refine xs_nil (xs_nil ?_)
  refine xs_cons (x_if (tv_cmp (ev_callB (by k_is) rfl (by kernel_rfl!) (lv_cons (ev_var rfl (lv_nil (cv_lenT (by simp) (ev_globD (by k_is) (by kernel_rfl!) (fun h _ => .int 40 _) (p2_gt ⟨_, rfl, ?_⟩)))))))))
  refine xs_nil ?_
  refine xs_cons (x_ret (ev_binop (ev_var rfl (ev_tup (lv_cons (ev_var rfl (lv_nil ⟨?_, p2_addT0 (ret_ok p)⟩)))))))
  rw [sizeLine_eq]; simp
theorem c_way1 {i g i' g' : Int} (hne : i' ≠ i) (p : Φ (.tup [.tup [.int i', .int g'], .tup [.int i, .int g]]) σ) : FC c (n + 1) (.ref 500) [.tup [.tup [.int i', .int g']], refV i g] σ Φ := by
  refine' fc_def ?ho ?hcd [Str.ofString "way", Str.ofString "value"] ?hb ?hl ?hx ?hkd ?hnd ?_ ?h1 ?h2 ?h3
  case ho => k_is
  case hcd => k_is
  case hl => rfl
  case hx => decide +kernel
  case hkd => kernel_rfl!
  case hnd => decide +kernel
  case h1 => rfl
  case h2 => rfl
  case h3 => rfl
  case hb =>
    intro s vs X hv
    obtain ⟨u0, u1, rfl⟩ := len2 hv
    first | exact BindsTo.of_eq rfl | exact kp_binds (K := HpK c.w.params) X (fun S => by kernel_rfl!)
  intro L
  refine xs_cons (x_assign (ev_tup (lv_cons (ev_unop (ev_int (p1_neg (lv_cons (ev_unop (ev_int (p1_neg (lv_nil ⟨?_, ?_⟩)))))))))) (by kernel_rfl!))
  · rw [sizeLine_eq]; simp
  refine xs_cons (x_if (tv_plain (tv_isiG (whole := pure .none) (by k_is) (by kernel_rfl!) (by k_is) (by kernel_rfl!) rfl clsOk_ref isref ?_)))
  refine xs_cons (x_assign (ev_tup (lv_cons (ev_va rfl rfl (by k_is) (by k_is) (by k_is) (by k_is) (lv_cons (ev_va rfl rfl (by k_is) (by k_is) (by k_is) (by k_is) (lv_nil ⟨?_, ?_⟩)))))) (by kernel_rfl!))
  · rw [sizeLine_eq]; simp
  refine xs_cons (x_if (tv_cmp (ev_var rfl (ev_var rfl (p2_inT ?_ (by simp [vdeps, vdep]) ⟨_, rfl, ?_⟩)))))
  · intro y hy
    simp only [List.mem_cons, List.mem_nil_iff, or_false] at hy
    subst hy
    exact ⟨_, veq_pair⟩
  have hin : (List.any [V.tup [.int i', .int g']] fun y => (veq y (.tup [.int i, .int g])).getD false) = false := by
    simp [veq_pair, hne]
  rw [hin]
  refine xs_nil (xs_nil ?_)
  refine xs_cons (x_if (tv_cmp (ev_callB (by k_is) rfl (by kernel_rfl!) (lv_cons (ev_var rfl (lv_nil (cv_lenT (by simp) (ev_globD (by k_is) (by kernel_rfl!) (fun h _ => .int 40 _) (p2_gt ⟨_, rfl, ?_⟩)))))))))
  refine xs_nil ?_
  refine xs_cons (x_ret (ev_binop (ev_var rfl (ev_tup (lv_cons (ev_var rfl (lv_nil ⟨?_, p2_addT (by simp) (by simp) (by simp) (by simp) (ret_ok p)⟩)))))))
  rw [sizeLine_eq]; simp
end
end Mine
end

section
open PySem PySem.W PyProof.Rows PySem.Calls PySem.Spec
set_option maxRecDepth 100000
namespace Mine
section
variable {c : Cx} {env : Env} {n : Nat} {Γ : Gm} {σ : St} {Φ : V → St → Prop} {Ψ : Fl → Gm → St → Prop}
/-- the tree of names is as law makes it -/
structure NLeaf (w : World) (tbl : List (Int × V)) (d : V) (kvs : List (List UInt8 × V)) : Prop where
  ex : ∃ es, Fet w tbl d (.ds es) ∧ dl es (Str.ofString "Kids") = none ∧ dl es (Str.ofString "Names") = some (.list (flatV kvs))
noncomputable def NTree (w : World) (tbl : List (Int × V)) (r : Int) (kvs : List (List UInt8 × V)) : Prop :=
  NLeaf w tbl (refV r 0) kvs ∨ ∃ es k, Fet w tbl (refV r 0) (.ds es) ∧ dl es (Str.ofString "Kids") = some (.list [refV k 0]) ∧ r ≠ k ∧ NLeaf w tbl (refV k 0) kvs
theorem at2 {α : Type} (σ : List α) (x y : α) : (σ ++ [x, y])[σ.length]? = some x ∧ (σ ++ [x, y])[σ.length + 1]? = some y := by simp
theorem set2 {α : Type} (σ : List α) (x y w : α) : (σ ++ [x, y]).set σ.length w = σ ++ [w, y] ∧ (σ ++ [x, y]).set (σ.length + 1) w = σ ++ [x, w] := by
  refine ⟨?_, ?_⟩ <;> (rw [List.set_append_right _ _ (by omega)]; simp)
theorem c_tree_pairs {tbl : List (Int × V)} {tr : V} {r : Int} {kvs : List (List UInt8 × V)} (hz : kvs.length ≤ 100) (nt : NTree c.w tbl r kvs) (p : Φ (.list (kvs.map pairV)) σ) : FC c (n + 5) (.ref 505) [shelfV (.di tbl) tr, refV r 0, .str "Names"] σ Φ := by
  refine' fc_def ?ho ?hcd [Str.ofString "shelf", Str.ofString "root", Str.ofString "word"] ?hb ?hl ?hx ?hkd ?hnd ?_ ?h1 ?h2 ?h3
  case ho => k_is
  case hcd => k_is
  case hl => rfl
  case hx => decide +kernel
  case hkd => kernel_rfl!
  case hnd => decide +kernel
  case h1 => rfl
  case h2 => rfl
  case h3 => rfl
  case hb =>
    intro s vs X hv
    obtain ⟨u0, u1, u2, rfl⟩ := len3 hv
    first | exact BindsTo.of_eq rfl | exact kp_binds (K := HpK c.w.params) X (fun S => by kernel_rfl!)
  intro L
  refine xs_cons (x_assign (ev_listC (lv_nil ⟨?_, fun a1 => ?_⟩)) (by kernel_rfl!))
  · rw [sizeLine_eq]; simp
  refine xs_cons (x_assign (ev_listC (lv_cons (ev_tup (lv_cons (ev_var rfl (lv_cons (ev_tup (lv_nil ⟨?_, lv_nil ⟨?_, lv_nil ⟨?_, fun a2 => ?_⟩⟩⟩)))))))) (by kernel_rfl!))
  · rw [sizeLine_eq]; simp
  · rw [sizeLine_eq]; simp
  · rw [sizeLine_eq]; simp
  rw [List.append_assoc]
  refine xs_cons (x_while (fun k Γ' σ' => Γ'.lookup (Str.ofString "found") = some (.cell a1) ∧ Γ'.lookup (Str.ofString "line") = some (.cell a2) ∧ Γ'.lookup (Str.ofString "shelf") = some (shelfV (.di tbl) tr) ∧ Γ'.lookup (Str.ofString "word") = some (.str "Names") ∧
    ((k = 3 ∧ σ' = σ ++ [(a1, .list []), (a2, .list [.tup [refV r 0, .tup []]])]) ∨ (k = 2 ∧ ∃ x, r ≠ x ∧ NLeaf c.w tbl (refV x 0) kvs ∧ σ' = σ ++ [(a1, .list []), (a2, .list [.tup [refV x 0, .tup [.tup [.int r, .int 0]]]])]) ∨ (k = 1 ∧ σ' = σ ++ [(a1, .list (kvs.map pairV)), (a2, .list [])]))) 3 ⟨rfl, rfl, rfl, rfl, .inl ⟨rfl, rfl⟩⟩ ?_)
  rintro k Γ' σ' ⟨g1, g2, g3, g4, ⟨rfl, rfl⟩ | ⟨rfl, x, hx, hleaf, rfl⟩ | ⟨rfl, rfl⟩⟩
  · obtain ⟨s0, s1⟩ := at2 σ (a1, MO.list []) (a2, MO.list [.tup [refV r 0, .tup []]])
    refine tv_cmp (ev_callB (by k_is) rfl (by kernel_rfl!) (lv_cons (ev_var g2 (lv_nil (cv_lenL (IsLs.at_ _ s1) (by simp) (ev_int (p2_gt ⟨_, rfl, ?_⟩)))))))
    refine xs_cons (x_assignT (ev_methB0 (ev_var g2 ⟨_, mok_list (IsLs.at_ _ s1) PySem.F.slot_list_pop PySem.F.type_list_pop, cv_pop (ds := []) _ s1 (by simp) ?_⟩)))
    rw [(set2 _ _ _ _).2]
    refine ⟨_, av_tuple rfl rfl (.cons (av_name (by kernel_rfl!)) (.cons (av_name (by kernel_rfl!)) .nil)), ?_⟩
    refine xs_cons (x_assign (ev_call (by k_is) (by kernel_rfl!) (by k_is) (lv_cons (ev_var rfl (lv_cons (ev_var rfl (lv_nil (FC.cv (c_way0 ?_)))))))) (by kernel_rfl!))
    obtain ⟨s0, s1⟩ := at2 σ (a1, MO.list []) (a2, MO.list [])
    rcases nt with ⟨es, h1, h2, h3⟩ | ⟨es, k, h1, h2, h3, h4⟩
    · refine xs_cons (x_assign (ev_call (by k_is) (by kernel_rfl!) (by k_is) (lv_cons (ev_var g3 (lv_cons (ev_var rfl (lv_nil (FC.cv (c_node_of h1 ?_)))))))) (by kernel_rfl!))
      refine xs_cons (x_if (tv_cmp (ev_str (ev_var rfl (p2_in .s IsD.frS rfl ⟨_, rfl, ?_⟩)))))
      rw [show (dl es (Str.ofString "Kids")).isSome = false by rw [h2]; rfl]
      refine xs_cons (x_expr (ev_methB (ev_var g1 ⟨_, mok_list (IsLs.at_ _ s0) PySem.F.slot_list_extend PySem.F.type_list_extend, ?_⟩)))
      refine lv_cons (ev_call (by k_is) (by kernel_rfl!) (by k_is) (lv_cons (ev_var g3 (lv_cons (ev_var rfl (lv_cons (ev_var g4 (lv_nil (FC.cv (c_node_pairs h3 hz ?_))))))))))
      refine lv_nil (cv_extend _ s0 rfl (by simp) (by simp; omega) ?_)
      rw [(set2 _ _ _ _).1]
      exact xs_nil (xs_nil ⟨1, by omega, g1, g2, g3, g4, .inr (.inr ⟨rfl, rfl⟩)⟩)
    · refine xs_cons (x_assign (ev_call (by k_is) (by kernel_rfl!) (by k_is) (lv_cons (ev_var g3 (lv_cons (ev_var rfl (lv_nil (FC.cv (c_node_of h1 ?_)))))))) (by kernel_rfl!))
      refine xs_cons (x_if (tv_cmp (ev_str (ev_var rfl (p2_in .s IsD.frS rfl ⟨_, rfl, ?_⟩)))))
      rw [show (dl es (Str.ofString "Kids")).isSome = true by rw [h2]; rfl]
      refine xs_cons (x_expr (ev_methB (ev_var g2 ⟨_, mok_list (IsLs.at_ _ s1) PySem.F.slot_list_extend PySem.F.type_list_extend, ?_⟩)))
      refine' lv_cons (ev_comp (cl := ?cl) ?hclos ?hce rfl ?hnm ?hx ?hcl ?hcn [(Str.ofString "way", .tup [.tup [.int r, .int 0]])] ?hcap rfl ?_)
      case hclos => exact rfl
      case hce => decide
      case hnm => decide
      case hx => decide
      case hcn => show List.Nodup [Str.ofString "way"]; decide +kernel
      case hcl =>
        intro p hp
        simp only [List.mem_cons, List.mem_nil_iff, or_false] at hp
        subst hp
        rfl
      case hcap => exact ⟨⟨rfl, by kernel_rfl!, _, rfl, rfl⟩, trivial⟩
      refine ie_rev (by k_is) rfl (by kernel_rfl!) (ev_call (by k_is) (by kernel_rfl!) (by k_is) (lv_cons (ev_var g3 (lv_cons (ev_var rfl (lv_cons (ev_str (lv_nil (FC.cv (c_row_of h2 ⟨_, rfl, ?_⟩))))))))))
      refine ⟨fun rem acc σ' => σ' = σ ++ [(a1, .list []), (a2, .list [])] ∧ ((rem = [refV k 0] ∧ acc = []) ∨ (rem = [] ∧ acc = [.tup [refV k 0, .tup [.tup [.int r, .int 0]]]])), ⟨rfl, .inl ⟨rfl, rfl⟩⟩, ⟨fun rem acc σ' q => ?_, fun d rr acc σ' C q => ?_⟩, fun acc σ' q => ?_⟩
      · rcases q.2 with ⟨_, rfl⟩ | ⟨_, rfl⟩ <;> simp
      · obtain ⟨rfl, ⟨q1, rfl⟩ | ⟨q1, _⟩⟩ := q
        · injection q1 with q1 q2
          subst q1 q2
          refine tl_nil ?_
          rw [if_pos rfl]
          refine ev_tup (lv_cons (ev_var rfl (lv_cons (ev_var rfl (lv_nil ⟨?_, rfl, .inr ⟨rfl, rfl⟩⟩)))))
          rw [sizeLine_eq]; simp
        · cases q1
      · obtain ⟨rfl, ⟨q1, _⟩ | ⟨_, rfl⟩⟩ := q
        · cases q1
        · refine lv_nil (cv_extend _ s1 rfl (by simp) (by simp) ?_)
          rw [(set2 _ _ _ _).2]
          exact xs_nil (xs_nil ⟨2, by omega, g1, g2, g3, g4, .inr (.inl ⟨rfl, k, h3, h4, rfl⟩)⟩)
  · obtain ⟨s0, s1⟩ := at2 σ (a1, MO.list []) (a2, MO.list [.tup [refV x 0, .tup [.tup [.int r, .int 0]]]])
    obtain ⟨es, h1, h2, h3⟩ := hleaf
    refine tv_cmp (ev_callB (by k_is) rfl (by kernel_rfl!) (lv_cons (ev_var g2 (lv_nil (cv_lenL (IsLs.at_ _ s1) (by simp) (ev_int (p2_gt ⟨_, rfl, ?_⟩)))))))
    refine xs_cons (x_assignT (ev_methB0 (ev_var g2 ⟨_, mok_list (IsLs.at_ _ s1) PySem.F.slot_list_pop PySem.F.type_list_pop, cv_pop (ds := []) _ s1 (by simp) ?_⟩)))
    rw [(set2 _ _ _ _).2]
    refine ⟨_, av_tuple rfl rfl (.cons (av_name (by kernel_rfl!)) (.cons (av_name (by kernel_rfl!)) .nil)), ?_⟩
    refine xs_cons (x_assign (ev_call (by k_is) (by kernel_rfl!) (by k_is) (lv_cons (ev_var rfl (lv_cons (ev_var rfl (lv_nil (FC.cv (c_way1 hx ?_)))))))) (by kernel_rfl!))
    obtain ⟨s0, s1⟩ := at2 σ (a1, MO.list []) (a2, MO.list [])
    refine xs_cons (x_assign (ev_call (by k_is) (by kernel_rfl!) (by k_is) (lv_cons (ev_var g3 (lv_cons (ev_var rfl (lv_nil (FC.cv (c_node_of h1 ?_)))))))) (by kernel_rfl!))
    refine xs_cons (x_if (tv_cmp (ev_str (ev_var rfl (p2_in .s IsD.frS rfl ⟨_, rfl, ?_⟩)))))
    rw [show (dl es (Str.ofString "Kids")).isSome = false by rw [h2]; rfl]
    refine xs_cons (x_expr (ev_methB (ev_var g1 ⟨_, mok_list (IsLs.at_ _ s0) PySem.F.slot_list_extend PySem.F.type_list_extend, ?_⟩)))
    refine lv_cons (ev_call (by k_is) (by kernel_rfl!) (by k_is) (lv_cons (ev_var g3 (lv_cons (ev_var rfl (lv_cons (ev_var g4 (lv_nil (FC.cv (c_node_pairs h3 hz ?_))))))))))
    refine lv_nil (cv_extend _ s0 rfl (by simp) (by simp; omega) ?_)
    rw [(set2 _ _ _ _).1]
    exact xs_nil (xs_nil ⟨1, by omega, g1, g2, g3, g4, .inr (.inr ⟨rfl, rfl⟩)⟩)
  · obtain ⟨s0, s1⟩ := at2 σ (a1, MO.list (kvs.map pairV)) (a2, MO.list [])
    refine tv_cmp (ev_callB (by k_is) rfl (by kernel_rfl!) (lv_cons (ev_var g2 (lv_nil (cv_lenL (IsLs.at_ _ s1) (by simp) (ev_int (p2_gt ⟨_, rfl, ?_⟩)))))))
    exact xs_frz (a := a1) (m := .list (kvs.map pairV)) (by simp) rfl (Γ' := [(Str.ofString "found", .list (kvs.map pairV))]) ⟨⟨_, g1, .cell⟩, trivial⟩ (xs_cons (x_ret (ev_var rfl ⟨_, σ, .inl rfl, List.Sublist.refl _, p⟩)))
end
end Mine
end

section
open PySem PySem.W PyProof.Rows PySem.Calls PySem.Spec
set_option maxRecDepth 100000
namespace Mine
section
variable {c : Cx} {env : Env} {n : Nat} {Γ : Gm} {σ : St} {Φ : V → St → Prop} {Ψ : Fl → Gm → St → Prop}
/-- the numbers of a row -/
inductive Num : V → Prop
  | none : Num .none
  | int : Num (.int 3)
  | dec : Num decV
  | name : Num (nameV "A")
  | bool : Num (.bool true)
noncomputable def numOk : V → Bool
  | .none => true
  | .int _ => true
  | .inst C _ => C == 155
  | _ => false
theorem Num.tree {m : Nat} {d : V} (h : Num d) : Tree m d := by
  cases h
  · exact .none
  · exact .int _
  · exact .dec
  · exact .name _
  · exact .bool _
theorem Num.nr {w : World} {d : V} (h : Num d) : NR w d := by
  cases h
  · exact nr_none
  · exact nr_int
  · exact nr_dec
  · exact nr_name
  · exact nr_bool
theorem Num.fet {w : World} {tbl : List (Int × V)} {d : V} (h : Num d) : Fet w tbl d d := ⟨h.nr, .inl rfl⟩
theorem Num.kind {d : V} (h : Num d) : (List.any [V.str "int", V.str "real", V.str "null"] fun y => (veq y (.str (kindV d))).getD false) = numOk d := by
  cases h <;> decide +kernel
theorem c_isview {tbl : List (Int × V)} {tr d : V} (h : Num d) (p : Φ (.bool (numOk d)) σ) : FC c (n + 2) (.ref 554) [shelfV (.di tbl) tr, d] σ Φ := by
  refine' fc_def ?ho ?hcd [Str.ofString "shelf", Str.ofString "value"] ?hb ?hl ?hx ?hkd ?hnd ?_ ?h1 ?h2 ?h3
  case ho => k_is
  case hcd => k_is
  case hl => rfl
  case hx => decide +kernel
  case hkd => kernel_rfl!
  case hnd => decide +kernel
  case h1 => rfl
  case h2 => rfl
  case h3 => rfl
  case hb =>
    intro s vs X hv
    obtain ⟨u0, u1, rfl⟩ := len2 hv
    first | exact BindsTo.of_eq rfl | exact kp_binds (K := HpK c.w.params) X (fun S => by kernel_rfl!)
  intro L
  refine xs_cons (x_ret (ev_cmp (ev_call (by k_is) (by kernel_rfl!) (by k_is) (lv_cons (ev_sh (f := 299) rfl rfl (by k_is) (by k_is) (by k_is) (by k_is) ?_)))))
  refine lv_cons (ev_var rfl (lv_nil (FC.cv (c_fetch h.fet (lv_nil (FC.cv (c_kind (h.tree (m := 0)) ?_)))))))
  refine ev_tup (lv_cons (ev_str (lv_cons (ev_str (lv_cons (ev_str (lv_nil ⟨?_, p2_inT ?_ (by simp [vdeps, vdep]) ?_⟩)))))))
  · rw [sizeLine_eq]; simp
  · intro y hy
    simp only [List.mem_cons, List.mem_nil_iff, or_false] at hy
    rcases hy with rfl | rfl | rfl <;> exact ⟨_, rfl⟩
  · rw [h.kind]
    exact (ret_ok p)
noncomputable def viewE : List (Str × V) := [(Str.ofString "XYZ", .int 3), (Str.ofString "Fit", .int 0), (Str.ofString "FitH", .int 1), (Str.ofString "FitV", .int 1), (Str.ofString "FitR", .int 4), (Str.ofString "FitB", .int 0), (Str.ofString "FitBH", .int 1), (Str.ofString "FitBV", .int 1)]
theorem views_is {h : Heap} (X : c.K.In h) : Rp c.w h (.ref 526) (.ds viewE) := by
  have e := X 526 _ (show (HpK c.w.params).lookup 526 = some _ by k_is)
  refine .ds (es := [_, _, _, _, _, _, _, _]) e ?_ (by decide +kernel) (by decide)
  refine .cons ⟨?_, ?_⟩ (.int _ _) (.cons ⟨?_, ?_⟩ (.int _ _) (.cons ⟨?_, ?_⟩ (.int _ _) (.cons ⟨?_, ?_⟩ (.int _ _) (.cons ⟨?_, ?_⟩ (.int _ _) (.cons ⟨?_, ?_⟩ (.int _ _) (.cons ⟨?_, ?_⟩ (.int _ _) (.cons ⟨?_, ?_⟩ (.int _ _) .nil)))))))
  all_goals first | (simp [Kd.knd, PySem.strKind, Value.isStrOf]; done) | rfl
end
end Mine
end

section
open PySem PySem.W PyProof.Rows PySem.Calls PySem.Spec
set_option maxRecDepth 100000
namespace Mine
section
variable {c : Cx} {env : Env} {n : Nat} {Γ : Gm} {σ : St} {Φ : V → St → Prop} {Ψ : Fl → Gm → St → Prop}
theorem c_target0 {tb tr pg : V} (p : Φ .none σ) : FC c (n + 1) (.ref 559) [shelfV tb tr, .list [pg]] σ Φ := by
  refine' fc_def ?ho ?hcd [Str.ofString "shelf", Str.ofString "row"] ?hb ?hl ?hx ?hkd ?hnd ?_ ?h1 ?h2 ?h3
  case ho => k_is
  case hcd => k_is
  case hl => rfl
  case hx => decide +kernel
  case hkd => kernel_rfl!
  case hnd => decide +kernel
  case h1 => rfl
  case h2 => rfl
  case h3 => rfl
  case hb =>
    intro s vs X hv
    obtain ⟨u0, u1, rfl⟩ := len2 hv
    first | exact BindsTo.of_eq rfl | exact kp_binds (K := HpK c.w.params) X (fun S => by kernel_rfl!)
  intro L
  refine xs_cons (x_if (tv_or (tv_cmp (ev_callB (by k_is) rfl (by kernel_rfl!) (lv_cons (ev_var rfl (lv_nil (cv_lenL IsLs.fr (by simp) (ev_int (p2_lt ⟨_, rfl, ?_⟩))))))))))
  exact xs_cons (x_ret (ev_none (ret_ok p)))
inductive PgV : V → Prop
  | ref (i g : Int) : PgV (refV i g)
  | int (i : Int) : PgV (.int i)
  | name (t : Str) : PgV (nameV t)
noncomputable def pgBad : V → Bool
  | .int i => decide (i < 0)
  | .inst C _ => C == 183
  | _ => false
noncomputable def viewN (vw : Str) : Option Nat := match dl viewE vw with
  | some (.int k) => some k.toNat
  | _ => none
noncomputable def targetR (pg : V) (vw : Str) (nums : List V) : V := match viewN vw with
  | none => .none
  | some k => if k < nums.length then .none else if nums.any (fun d => !numOk d) then .none else if pgBad pg then .none else targetV pg (.str vw) (.list (nums ++ List.replicate (k - nums.length) .none))
theorem viewN_dl {vw : Str} : (dl viewE vw = none ∧ viewN vw = none) ∨ ∃ k : Nat, k ≤ 4 ∧ dl viewE vw = some (.int k) ∧ viewN vw = some k := by
  cases h : dl viewE vw with
  | none => exact .inl ⟨rfl, by unfold viewN; rw [h]⟩
  | some v =>
    have := dl_mem h
    unfold viewE at this
    simp only [List.mem_cons, List.mem_nil_iff, or_false, Prod.mk.injEq] at this
    refine .inr ?_
    unfold viewN
    rw [h]
    rcases this with ⟨_, rfl⟩ | ⟨_, rfl⟩ | ⟨_, rfl⟩ | ⟨_, rfl⟩ | ⟨_, rfl⟩ | ⟨_, rfl⟩ | ⟨_, rfl⟩ | ⟨_, rfl⟩
    · exact ⟨3, by omega, rfl, rfl⟩
    · exact ⟨0, by omega, rfl, rfl⟩
    · exact ⟨1, by omega, rfl, rfl⟩
    · exact ⟨1, by omega, rfl, rfl⟩
    · exact ⟨4, by omega, rfl, rfl⟩
    · exact ⟨0, by omega, rfl, rfl⟩
    · exact ⟨1, by omega, rfl, rfl⟩
    · exact ⟨1, by omega, rfl, rfl⟩
theorem c_target {tbl : List (Int × V)} {tr pg : V} {vw : Str} {nums : List V} (hp : PgV pg) (hn : ∀ d ∈ nums, Num d) (hz : nums.length ≤ 6) (p : Φ (targetR pg vw nums) σ) : FC c (n + 4) (.ref 559) [shelfV (.di tbl) tr, .list (pg :: nameV vw :: nums)] σ Φ := by
  refine' fc_def ?ho ?hcd [Str.ofString "shelf", Str.ofString "row"] ?hb ?hl ?hx ?hkd ?hnd ?_ ?h1 ?h2 ?h3
  case ho => k_is
  case hcd => k_is
  case hl => rfl
  case hx => decide +kernel
  case hkd => kernel_rfl!
  case hnd => decide +kernel
  case h1 => rfl
  case h2 => rfl
  case h3 => rfl
  case hb =>
    intro s vs X hv
    obtain ⟨u0, u1, rfl⟩ := len2 hv
    first | exact BindsTo.of_eq rfl | exact kp_binds (K := HpK c.w.params) X (fun S => by kernel_rfl!)
  intro L
  refine xs_cons (x_if (tv_or (tv_cmp (ev_callB (by k_is) rfl (by kernel_rfl!) (lv_cons (ev_var rfl (lv_nil (cv_lenL IsLs.fr (by simp; omega) (ev_int (p2_lt ⟨_, rfl, ?_⟩))))))))))
  have hl2 : decide (((pg :: nameV vw :: nums).length : Int) < 2) = false := by simp; omega
  rw [hl2, if_neg Bool.false_ne_true]
  refine tv_or (tv_not (tv_plain (ev_callB (by k_is) rfl (by kernel_rfl!) (lv_cons (ev_sh (f := 299) rfl rfl (by k_is) (by k_is) (by k_is) (by k_is) ?_)))))
  refine lv_cons (ev_sub (ev_var rfl (ev_int (p2_litem (e := nameV vw) IsLs.fr (by omega) (by omega) rfl (lv_nil (FC.cv (c_fetch ⟨nr_name, .inl rfl⟩ ?_)))))))
  refine lv_cons (ev_glob (by k_is) (by kernel_rfl!) (lv_nil (cv_isi (b := true) clsOk_name ?_ (t1_bool ?_))))
  · dsimp only [typ]; kit_is
  refine tv_or_nil ?_
  refine xs_nil ?_
  refine xs_cons (x_assign (ev_attr (ev_sh (f := 299) rfl rfl (by k_is) (by k_is) (by k_is) (by k_is) ?_)) (by kernel_rfl!))
  refine lv_cons (ev_sub (ev_var rfl (ev_int (p2_litem (e := nameV vw) IsLs.fr (by omega) (by omega) rfl (lv_nil (FC.cv (c_fetch ⟨nr_name, .inl rfl⟩ ?_)))))))
  refine p1_attr rfl (by k_is) (by k_is) (by k_is) (by k_is) ?_
  refine' xs_cons (x_assignComp (cl := ?cl) (by kernel_rfl!) ?hclos ?hce rfl ?hnm ?hx ?hcl ?hcn [(Str.ofString "shelf", shelfV (.di tbl) tr)] ?hcap rfl (by kernel_rfl!) ?_)
  case hclos => exact rfl
  case hce => decide
  case hnm => decide
  case hx => decide
  case hcn => show List.Nodup [Str.ofString "shelf"]; decide +kernel
  case hcl =>
    intro p hp
    simp only [List.mem_cons, List.mem_nil_iff, or_false] at hp
    subst hp
    rfl
  case hcap => exact ⟨⟨rfl, by kernel_rfl!, _, rfl, rfl⟩, trivial⟩
  refine ie_of (ev_from (k := 2) (ev_var rfl ⟨_, IsLs.fr, by rw [sizeLine_eq]; simp; omega, ?_⟩))
  refine ⟨nums, iv_list, fun rem acc σ' => σ' = σ ∧ acc ++ rem = nums, ⟨rfl, rfl⟩, ⟨fun rem acc σ' q => ?_, fun d r acc σ' C q => ?_⟩, fun acc σ' q => ?_⟩
  · have := congrArg List.length q.2
    simp at this; omega
  · obtain ⟨rfl, q⟩ := q
    have hd : Num d := hn d (by rw [← q]; simp)
    refine tl_nil ?_
    rw [if_pos rfl]
    refine ev_sh (f := 299) rfl rfl (by k_is) (by k_is) (by k_is) (by k_is) (lv_cons (ev_var rfl (lv_nil (FC.cv (c_fetch hd.fet ⟨rfl, ?_⟩)))))
    rw [← q]; simp
  obtain ⟨rfl, q⟩ := q
  have q : acc = nums := by simpa using q
  subst q
  refine xs_cons (x_if (tv_or (tv_cmp (ev_var rfl (ev_globD (d := .ds viewE) (by k_is) (by kernel_rfl!) (fun h X => views_is X) (p2_notin .s IsD.frS rfl ⟨_, rfl, ?_⟩))))))
  rcases viewN_dl (vw := vw) with ⟨h1, h2⟩ | ⟨k, hk, h1, h2⟩
  · rw [h1]
    have e : targetR pg vw acc = .none := by unfold targetR; rw [h2]
    rw [e] at p
    exact xs_cons (x_ret (ev_none (ret_ok p)))
  · rw [h1]
    refine tv_or (tv_cmp (ev_callB (by k_is) rfl (by kernel_rfl!) (lv_cons (ev_var rfl (lv_nil (cv_lenL IsLs.fr (by omega) (ev_sub (ev_globD (d := .ds viewE) (by k_is) (by kernel_rfl!) (fun h X => views_is X) (ev_var rfl (p2_dget .s IsD.frS rfl h1 (p2_gt ⟨_, rfl, ?_⟩)))))))))))
    unfold targetR at p
    rw [h2] at p
    dsimp only at p
    by_cases hlt : k < acc.length
    · rw [if_pos hlt] at p
      rw [decide_eq_true (show (k : Int) < (acc.length : Int) by omega)]
      exact xs_cons (x_ret (ev_none (ret_ok p)))
    · rw [if_neg hlt] at p
      rw [decide_eq_false (show ¬ (k : Int) < (acc.length : Int) by omega), if_neg Bool.false_ne_true]
      refine tv_or_nil ?_
      refine xs_nil ?_
      refine' xs_cons (x_if (tv_cmp (ev_comp (cl := ?cl) ?hclos ?hce rfl ?hnm ?hx ?hcl ?hcn [(Str.ofString "shelf", shelfV (.di tbl) tr)] ?hcap rfl ?_)))
      case hclos => exact rfl
      case hce => decide
      case hnm => decide
      case hx => decide
      case hcn => show List.Nodup [Str.ofString "shelf"]; decide +kernel
      case hcl =>
        intro p hp
        simp only [List.mem_cons, List.mem_nil_iff, or_false] at hp
        subst hp
        rfl
      case hcap => exact ⟨⟨rfl, by kernel_rfl!, _, rfl, rfl⟩, trivial⟩
      refine ie_of (ev_var rfl ⟨acc, iv_list, fun rem ac2 σ'' => σ'' = σ' ∧ ac2 ++ rem.filter (fun d => !numOk d) = acc.filter (fun d => !numOk d) ∧ ∀ d ∈ rem, Num d, ⟨rfl, rfl, hn⟩, ⟨fun rem ac2 σ'' q => ?_, fun d r ac2 σ'' C q => ?_⟩, fun ac2 σ'' q => ?_⟩)
      · have h3 := congrArg List.length q.2.1
        have h4 := List.length_filter_le (fun d => !numOk d) acc
        simp only [List.length_append] at h3; omega
      · obtain ⟨rfl, q1, q2⟩ := q
        have hd := q2 d (.head _)
        refine tl_one (tv_not (tv_plain (ev_call (by k_is) (by kernel_rfl!) (by k_is) (lv_cons (ev_var rfl (lv_cons (ev_var rfl (lv_nil (FC.cv (c_isview hd (t1_bool ?_)))))))))))
        rw [List.filter_cons] at q1
        cases hb : numOk d with
        | true =>
          rw [hb] at q1
          exact ⟨rfl, by simpa using q1, fun x hx => q2 x (.tail _ hx)⟩
        | false =>
          rw [hb] at q1
          refine ev_var rfl ⟨rfl, ?_, fun x hx => q2 x (.tail _ hx)⟩
          rw [← q1]; simp
      obtain ⟨rfl, q1, q2⟩ := q
      rw [List.filter_nil, List.append_nil] at q1
      subst q1
      have hv : veqs (acc.filter fun d => !numOk d) [] = some (!acc.any fun d => !numOk d) := by
        cases hf : acc.filter (fun d => !numOk d) with
        | nil =>
          have : (acc.any fun d => !numOk d) = false := by
            rw [List.any_eq_false]; intro x hx hxx
            have : x ∈ acc.filter (fun d => !numOk d) := List.mem_filter.mpr ⟨hx, hxx⟩
            rw [hf] at this; cases this
          rw [this]; rfl
        | cons y l =>
          have hy : y ∈ acc.filter (fun d => !numOk d) := by rw [hf]; exact .head _
          have : (acc.any fun d => !numOk d) = true := List.any_eq_true.mpr ⟨y, (List.mem_filter.mp hy).1, (List.mem_filter.mp hy).2⟩
          rw [this]; rfl
      refine ev_list (lv_nil ⟨?_, p2_neL IsLs.fr IsLs.fr hv ?_ ⟨_, rfl, ?_⟩⟩)
      · rw [sizeLine_eq]; simp
      · exact Nat.le_trans (vdeps_all (b := 0) fun d hd => by
          have := hn d (List.mem_filter.mp hd).1
          cases this <;> simp [vdep]) (by omega)
      cases hany : acc.any (fun d => !numOk d) with
      | true =>
        rw [hany, if_pos rfl] at p
        exact xs_cons (x_ret (ev_none (ret_ok p)))
      | false =>
        rw [hany, if_neg Bool.false_ne_true] at p
        refine xs_nil ?_
        cases hp with
        | ref i g =>
          rw [show pgBad (refV i g) = false from rfl, if_neg Bool.false_ne_true] at p
          refine xs_cons (x_if (tv_and (tv_not (tv_plain (ev_callB (by k_is) rfl (by kernel_rfl!) (lv_cons (ev_sub (ev_var rfl (ev_int (p2_litem (e := refV i g) IsLs.fr (by omega) (by omega) rfl (lv_cons (ev_glob (by k_is) (by kernel_rfl!) (lv_nil (cv_isi clsOk_ref isref (t1_bool ?_)))))))))))))))
          refine xs_nil ?_
          refine xs_cons (x_ret (ev_call (by k_is) (by kernel_rfl!) (by k_is) (lv_cons (ev_sub (ev_var rfl (ev_int (p2_litem (e := refV i g) IsLs.fr (by omega) (by omega) rfl ?_)))))))
          refine lv_cons (ev_var rfl (lv_cons (ev_binop (ev_var rfl (ev_binop (ev_list (lv_cons (ev_none (lv_nil ⟨?_, ?_⟩)))))))))
          · rw [sizeLine_eq]; simp
          refine ev_binop (ev_sub (ev_globD (d := .ds viewE) (by k_is) (by kernel_rfl!) (fun h X => views_is X) (ev_var rfl (p2_dget .s IsD.frS rfl h1 ?_))))
          refine ev_callB (by k_is) rfl (by kernel_rfl!) (lv_cons (ev_var rfl (lv_nil (cv_lenL IsLs.fr (by omega) (p2_sub ?_)))))
          rw [show ((k : Int) - (acc.length : Int)) = ((k - acc.length : Nat) : Int) by omega]
          refine p2_mulL IsLs.fr (by omega) (p2_addL IsLs.fr IsLs.fr (by omega) (by simp; omega) (lv_nil (FC.cv (c_Target ?_))))
          exact (ret_ok p)
        | int i =>
          refine xs_cons (x_if (tv_and (tv_not (tv_plain (ev_callB (by k_is) rfl (by kernel_rfl!) (lv_cons (ev_sub (ev_var rfl (ev_int (p2_litem (e := .int i) IsLs.fr (by omega) (by omega) rfl (lv_cons (ev_glob (by k_is) (by kernel_rfl!) (lv_nil (cv_isi nr_int.1 nr_int.2 (t1_bool ?_)))))))))))))))
          refine tv_and (tv_or (tv_cmp (ev_call (by k_is) (by kernel_rfl!) (by k_is) (lv_cons (ev_sub (ev_var rfl (ev_int (p2_litem (e := .int i) IsLs.fr (by omega) (by omega) rfl ?_))))))))
          refine lv_nil (FC.cv (c_kind_int (ev_str (p2_neSd (r := true) (by decide +kernel) ⟨_, rfl, ?_⟩))))
          refine tv_or (tv_cmp (ev_sub (ev_var rfl (ev_int (p2_litem (e := .int i) IsLs.fr (by omega) (by omega) rfl (ev_int (p2_lt ⟨_, rfl, ?_⟩)))))))
          cases hi : decide (i < 0) with
          | true =>
            rw [show pgBad (.int i) = true from hi, if_pos rfl] at p
            refine tv_and_nil ?_
            exact xs_cons (x_ret (ev_none (ret_ok p)))
          | false =>
            rw [show pgBad (.int i) = false from hi, if_neg Bool.false_ne_true] at p
            refine tv_or_nil ?_
            refine xs_nil ?_
            refine xs_cons (x_ret (ev_call (by k_is) (by kernel_rfl!) (by k_is) (lv_cons (ev_sub (ev_var rfl (ev_int (p2_litem (e := .int i) IsLs.fr (by omega) (by omega) rfl ?_)))))))
            refine lv_cons (ev_var rfl (lv_cons (ev_binop (ev_var rfl (ev_binop (ev_list (lv_cons (ev_none (lv_nil ⟨?_, ?_⟩)))))))))
            · rw [sizeLine_eq]; simp
            refine ev_binop (ev_sub (ev_globD (d := .ds viewE) (by k_is) (by kernel_rfl!) (fun h X => views_is X) (ev_var rfl (p2_dget .s IsD.frS rfl h1 ?_))))
            refine ev_callB (by k_is) rfl (by kernel_rfl!) (lv_cons (ev_var rfl (lv_nil (cv_lenL IsLs.fr (by omega) (p2_sub ?_)))))
            rw [show ((k : Int) - (acc.length : Int)) = ((k - acc.length : Nat) : Int) by omega]
            refine p2_mulL IsLs.fr (by omega) (p2_addL IsLs.fr IsLs.fr (by omega) (by simp; omega) (lv_nil (FC.cv (c_Target ?_))))
            exact (ret_ok p)
        | name t =>
          rw [show pgBad (nameV t) = true from rfl, if_pos rfl] at p
          refine xs_cons (x_if (tv_and (tv_not (tv_plain (ev_callB (by k_is) rfl (by kernel_rfl!) (lv_cons (ev_sub (ev_var rfl (ev_int (p2_litem (e := nameV t) IsLs.fr (by omega) (by omega) rfl (lv_cons (ev_glob (by k_is) (by kernel_rfl!) (lv_nil (cv_isi nr_name.1 nr_name.2 (t1_bool ?_)))))))))))))))
          refine tv_and (tv_or (tv_cmp (ev_call (by k_is) (by kernel_rfl!) (by k_is) (lv_cons (ev_sub (ev_var rfl (ev_int (p2_litem (e := nameV t) IsLs.fr (by omega) (by omega) rfl ?_))))))))
          refine lv_nil (FC.cv (c_kind_name (ev_str (p2_neSd (r := false) (by decide +kernel) ⟨_, rfl, ?_⟩))))
          refine tv_and_nil ?_
          exact xs_cons (x_ret (ev_none (ret_ok p)))
end
end Mine
end

section
open PySem PySem.W PyProof.Rows PySem.Calls PySem.Spec
set_option maxRecDepth 100000
namespace Mine
section
variable {c : Cx} {env : Env} {n : Nat} {Γ : Gm} {σ : St} {Φ : V → St → Prop} {Ψ : Fl → Gm → St → Prop}
theorem c_names_none {tbl : List (Int × V)} {tr re : List (Str × V)} (hre : Fet c.w tbl ((dl tr (Str.ofString "Root")).getD .none) (.ds re)) (hn : dl re (Str.ofString "Names") = none) (p : Φ .none σ) : FC c (n + 4) (.ref 566) [shelfV (.di tbl) (.ds tr)] σ Φ := by
  have hf : Fet c.w tbl ((dl re (Str.ofString "Names")).getD .none) .none := by rw [hn]; exact ⟨nr_none, .inl rfl⟩
  refine' fc_def ?ho ?hcd [Str.ofString "shelf"] ?hb ?hl ?hx ?hkd ?hnd ?_ ?h1 ?h2 ?h3
  case ho => k_is
  case hcd => k_is
  case hl => rfl
  case hx => decide +kernel
  case hkd => kernel_rfl!
  case hnd => decide +kernel
  case h1 => rfl
  case h2 => rfl
  case h3 => rfl
  case hb =>
    intro s vs X hv
    obtain ⟨u0, rfl⟩ := len1 hv
    first | exact BindsTo.of_eq rfl | exact kp_binds (K := HpK c.w.params) X (fun S => by kernel_rfl!)
  intro L
  refine xs_cons (x_assign (ev_sh (f := 306) rfl rfl (by k_is) (by k_is) (by k_is) (by k_is) (lv_cons (ev_meth0 (ev_var rfl ⟨355, ⟨⟨363, _, rfl, rfl, by k_is, by k_is⟩, by k_is, by k_is⟩, FC.cv (c_root hre (lv_cons (ev_str (lv_nil (FC.cv (c_get (k := Str.ofString "Names") hf ?_))))))⟩)))) (by kernel_rfl!))
  refine xs_cons (x_ret (ev_ifexp (tv_plain (tv_isiB (whole := pure .none) (by k_is) (by kernel_rfl!) (by k_is) rfl (by kernel_rfl!) rfl trivial (b := false) ?_ ?_))))
  · dsimp only [typ]; kit_is
  · exact ev_none (ret_ok p)
theorem c_names_some {tbl : List (Int × V)} {tr re : List (Str × V)} {d : V} (hre : Fet c.w tbl ((dl tr (Str.ofString "Root")).getD .none) (.ds re)) (hn : dl re (Str.ofString "Names") = some (.ds [(Str.ofString "Dests", d)])) (p : Φ d σ) : FC c (n + 4) (.ref 566) [shelfV (.di tbl) (.ds tr)] σ Φ := by
  have hf : Fet c.w tbl ((dl re (Str.ofString "Names")).getD .none) (.ds [(Str.ofString "Dests", d)]) := by rw [hn]; exact ⟨nr_dict, .inl rfl⟩
  refine' fc_def ?ho ?hcd [Str.ofString "shelf"] ?hb ?hl ?hx ?hkd ?hnd ?_ ?h1 ?h2 ?h3
  case ho => k_is
  case hcd => k_is
  case hl => rfl
  case hx => decide +kernel
  case hkd => kernel_rfl!
  case hnd => decide +kernel
  case h1 => rfl
  case h2 => rfl
  case h3 => rfl
  case hb =>
    intro s vs X hv
    obtain ⟨u0, rfl⟩ := len1 hv
    first | exact BindsTo.of_eq rfl | exact kp_binds (K := HpK c.w.params) X (fun S => by kernel_rfl!)
  intro L
  refine xs_cons (x_assign (ev_sh (f := 306) rfl rfl (by k_is) (by k_is) (by k_is) (by k_is) (lv_cons (ev_meth0 (ev_var rfl ⟨355, ⟨⟨363, _, rfl, rfl, by k_is, by k_is⟩, by k_is, by k_is⟩, FC.cv (c_root hre (lv_cons (ev_str (lv_nil (FC.cv (c_get (k := Str.ofString "Names") hf ?_))))))⟩)))) (by kernel_rfl!))
  refine xs_cons (x_ret (ev_ifexp (tv_plain (tv_isiB (whole := pure .none) (by k_is) (by kernel_rfl!) (by k_is) rfl (by kernel_rfl!) rfl trivial (b := true) ?_ ?_))))
  · dsimp only [typ]; kit_is
  · exact ev_methB (ev_var rfl ⟨_, mok_get .s IsD.frS, lv_cons (ev_str (lv_nil (cv_get .s IsD.frS rfl (ret_ok p))))⟩)
theorem c_old_none {tbl : List (Int × V)} {tr re : List (Str × V)} (hre : Fet c.w tbl ((dl tr (Str.ofString "Root")).getD .none) (.ds re)) (hn : dl re (Str.ofString "Dests") = none) (p : Φ (.ds []) σ) : FC c (n + 4) (.ref 573) [shelfV (.di tbl) (.ds tr)] σ Φ := by
  have hf : Fet c.w tbl ((dl re (Str.ofString "Dests")).getD .none) .none := by rw [hn]; exact ⟨nr_none, .inl rfl⟩
  refine' fc_def ?ho ?hcd [Str.ofString "shelf"] ?hb ?hl ?hx ?hkd ?hnd ?_ ?h1 ?h2 ?h3
  case ho => k_is
  case hcd => k_is
  case hl => rfl
  case hx => decide +kernel
  case hkd => kernel_rfl!
  case hnd => decide +kernel
  case h1 => rfl
  case h2 => rfl
  case h3 => rfl
  case hb =>
    intro s vs X hv
    obtain ⟨u0, rfl⟩ := len1 hv
    first | exact BindsTo.of_eq rfl | exact kp_binds (K := HpK c.w.params) X (fun S => by kernel_rfl!)
  intro L
  refine xs_cons (x_assign (ev_sh (f := 306) rfl rfl (by k_is) (by k_is) (by k_is) (by k_is) (lv_cons (ev_meth0 (ev_var rfl ⟨355, ⟨⟨363, _, rfl, rfl, by k_is, by k_is⟩, by k_is, by k_is⟩, FC.cv (c_root hre (lv_cons (ev_str (lv_nil (FC.cv (c_get (k := Str.ofString "Dests") hf ?_))))))⟩)))) (by kernel_rfl!))
  refine xs_cons (x_ret (ev_ifexp (tv_plain (tv_isiB (whole := pure .none) (by k_is) (by kernel_rfl!) (by k_is) rfl (by kernel_rfl!) rfl trivial (b := false) ?_ ?_))))
  · dsimp only [typ]; kit_is
  · exact ev_dict0 .s (ret_ok p)
theorem c_old_some {tbl : List (Int × V)} {tr re es : List (Str × V)} (hre : Fet c.w tbl ((dl tr (Str.ofString "Root")).getD .none) (.ds re)) (hn : dl re (Str.ofString "Dests") = some (.ds es)) (p : Φ (.ds es) σ) : FC c (n + 4) (.ref 573) [shelfV (.di tbl) (.ds tr)] σ Φ := by
  have hf : Fet c.w tbl ((dl re (Str.ofString "Dests")).getD .none) (.ds es) := by rw [hn]; exact ⟨nr_dict, .inl rfl⟩
  refine' fc_def ?ho ?hcd [Str.ofString "shelf"] ?hb ?hl ?hx ?hkd ?hnd ?_ ?h1 ?h2 ?h3
  case ho => k_is
  case hcd => k_is
  case hl => rfl
  case hx => decide +kernel
  case hkd => kernel_rfl!
  case hnd => decide +kernel
  case h1 => rfl
  case h2 => rfl
  case h3 => rfl
  case hb =>
    intro s vs X hv
    obtain ⟨u0, rfl⟩ := len1 hv
    first | exact BindsTo.of_eq rfl | exact kp_binds (K := HpK c.w.params) X (fun S => by kernel_rfl!)
  intro L
  refine xs_cons (x_assign (ev_sh (f := 306) rfl rfl (by k_is) (by k_is) (by k_is) (by k_is) (lv_cons (ev_meth0 (ev_var rfl ⟨355, ⟨⟨363, _, rfl, rfl, by k_is, by k_is⟩, by k_is, by k_is⟩, FC.cv (c_root hre (lv_cons (ev_str (lv_nil (FC.cv (c_get (k := Str.ofString "Dests") hf ?_))))))⟩)))) (by kernel_rfl!))
  refine xs_cons (x_ret (ev_ifexp (tv_plain (tv_isiB (whole := pure .none) (by k_is) (by kernel_rfl!) (by k_is) rfl (by kernel_rfl!) rfl trivial (b := true) ?_ ?_))))
  · dsimp only [typ]; kit_is
  · exact ev_var rfl (ret_ok p)
/-- what a value of a name stands for: the row itself, a dict of it, a reference to it -/
noncomputable def ValV (tbl : List (Int × V)) (ds : List V) (v : V) : Prop := v = .list ds ∨ v = .ds [(Str.ofString "D", .list ds)] ∨ ∃ i g, v = refV i g ∧ dl tbl i = some (.tup [.int g, .list ds])
theorem c_dest {tbl : List (Int × V)} {tr v : V} {ds : List V} {r : V} (hv : ValV tbl ds v) (ht : ∀ {c : Cx} {n : Nat} {σ : St} {Φ : V → St → Prop}, Φ r σ → FC c (n + 4) (.ref 559) [shelfV (.di tbl) tr, .list ds] σ Φ) (p : Φ r σ) : FC c (n + 5) (.ref 587) [shelfV (.di tbl) tr, v] σ Φ := by
  have hw : (Fet c.w tbl v (.list ds)) ∨ v = .ds [(Str.ofString "D", .list ds)] := by
    rcases hv with rfl | rfl | ⟨i, g, rfl, h⟩
    · exact .inl ⟨nr_list, .inl rfl⟩
    · exact .inr rfl
    · exact .inl ⟨nr_list, .inr ⟨i, g, rfl, h⟩⟩
  refine' fc_def ?ho ?hcd [Str.ofString "shelf", Str.ofString "value"] ?hb ?hl ?hx ?hkd ?hnd ?_ ?h1 ?h2 ?h3
  case ho => k_is
  case hcd => k_is
  case hl => rfl
  case hx => decide +kernel
  case hkd => kernel_rfl!
  case hnd => decide +kernel
  case h1 => rfl
  case h2 => rfl
  case h3 => rfl
  case hb =>
    intro s vs X hv
    obtain ⟨u0, u1, rfl⟩ := len2 hv
    first | exact BindsTo.of_eq rfl | exact kp_binds (K := HpK c.w.params) X (fun S => by kernel_rfl!)
  intro L
  rcases hw with hw | rfl
  · refine xs_cons (x_assign (ev_sh (f := 299) rfl rfl (by k_is) (by k_is) (by k_is) (by k_is) (lv_cons (ev_var rfl (lv_nil (FC.cv (c_fetch hw ?_)))))) (by kernel_rfl!))
    refine xs_cons (x_if (tv_cmp (ev_call (by k_is) (by kernel_rfl!) (by k_is) (lv_cons (ev_var rfl (lv_nil (FC.cv (c_kind_list ?_))))))))
    refine ev_tup (lv_cons (ev_str (lv_cons (ev_str (lv_nil ⟨?_, p2_inT ?_ (by simp [vdeps, vdep]) ⟨_, rfl, ?_⟩⟩)))))
    · rw [sizeLine_eq]; simp
    · intro y hy
      simp only [List.mem_cons, List.mem_nil_iff, or_false] at hy
      rcases hy with rfl | rfl <;> exact ⟨_, rfl⟩
    rw [show (List.any [V.str "name", V.str "string"] fun y => (veq y (.str (Str.ofString "array"))).getD false) = false by decide +kernel]
    refine xs_nil ?_
    refine xs_cons (x_if (tv_plain (tv_isiB (whole := pure .none) (by k_is) (by kernel_rfl!) (by k_is) rfl (by kernel_rfl!) rfl trivial (b := false) ?_ ?_)))
    · dsimp only [typ]; kit_is
    refine xs_nil ?_
    refine xs_cons (x_ret (ev_ifexp (tv_plain (tv_isiB (whole := pure .none) (by k_is) (by kernel_rfl!) (by k_is) rfl (by kernel_rfl!) rfl trivial (b := true) ?_ ?_))))
    · dsimp only [typ]; kit_is
    · exact ev_call (by k_is) (by kernel_rfl!) (by k_is) (lv_cons (ev_var rfl (lv_cons (ev_var rfl (lv_nil (FC.cv (ht (ret_ok p))))))))
  · refine xs_cons (x_assign (ev_sh (f := 299) rfl rfl (by k_is) (by k_is) (by k_is) (by k_is) (lv_cons (ev_var rfl (lv_nil (FC.cv (c_fetch ⟨nr_dict, .inl rfl⟩ ?_)))))) (by kernel_rfl!))
    refine xs_cons (x_if (tv_cmp (ev_call (by k_is) (by kernel_rfl!) (by k_is) (lv_cons (ev_var rfl (lv_nil (FC.cv (c_kind_dict ?_))))))))
    refine ev_tup (lv_cons (ev_str (lv_cons (ev_str (lv_nil ⟨?_, p2_inT ?_ (by simp [vdeps, vdep]) ⟨_, rfl, ?_⟩⟩)))))
    · rw [sizeLine_eq]; simp
    · intro y hy
      simp only [List.mem_cons, List.mem_nil_iff, or_false] at hy
      rcases hy with rfl | rfl <;> exact ⟨_, rfl⟩
    rw [show (List.any [V.str "name", V.str "string"] fun y => (veq y (.str (Str.ofString "dict"))).getD false) = false by decide +kernel]
    refine xs_nil ?_
    refine xs_cons (x_if (tv_plain (tv_isiB (whole := pure .none) (by k_is) (by kernel_rfl!) (by k_is) rfl (by kernel_rfl!) rfl trivial (b := true) ?_ ?_)))
    · dsimp only [typ]; kit_is
    refine xs_cons (x_assign (ev_sh (f := 306) rfl rfl (by k_is) (by k_is) (by k_is) (by k_is) (lv_cons (ev_var rfl (lv_cons (ev_str (lv_nil (FC.cv (c_get (v := .list ds) ⟨nr_list, .inl rfl⟩ ?_)))))))) (by kernel_rfl!))
    refine xs_nil ?_
    refine xs_cons (x_ret (ev_ifexp (tv_plain (tv_isiB (whole := pure .none) (by k_is) (by kernel_rfl!) (by k_is) rfl (by kernel_rfl!) rfl trivial (b := true) ?_ ?_))))
    · dsimp only [typ]; kit_is
    · exact ev_call (by k_is) (by kernel_rfl!) (by k_is) (lv_cons (ev_var rfl (lv_cons (ev_var rfl (lv_nil (FC.cv (ht (ret_ok p))))))))
end
end Mine
end

section
open PySem PySem.W PyProof.Rows PySem.Calls PySem.Spec
set_option maxRecDepth 100000
namespace Mine
section
variable {c : Cx} {env : Env} {n : Nat} {Γ : Gm} {σ : St} {Φ : V → St → Prop} {Ψ : Fl → Gm → St → Prop}
noncomputable def encB (k : Str) : List UInt8 := (k.cps.toList.map fun (ch : Nat) => (ch : Int)).map fun i => i.toNat.toUInt8
/-- bytes([ord(sign) for sign in key]) -/
theorem ev_enc {x y : Str} {p1 p2 p3 p4 p5 p6 p7 p8 : Pos} {scope : Scope} {k : Str} (hk : Γ.lookup x = some (.str k)) (hs : k.cps.toList.length ≤ 100) (hr : ∀ ch ∈ k.cps.toList, ch < 256)
    (hb1 : nsIn (HpK c.w.params) mainGlobals "bytes" = some none) (hb2 : env.kindOf "bytes" = some .globalImplicit) (ho1 : nsIn (HpK c.w.params) mainGlobals "ord" = some none) (ho2 : ∀ C, (compEnvC scope [] C env).kindOf "ord" = some .globalImplicit)
    (hclos : closureFor scope env = pure []) (hcell : ∀ y ∈ scope.names, y.2 ≠ .cell) (hkind : scope.kind = .function) (hnames : ∀ y ∈ scope.names, y.2 = .local → scope.names.lookup y.1 = some .local) (hx : scope.names.lookup y = some .local)
    (hd1 : (x == ("__debug__" : Str)) = false) (hn1 : (x == ("__classdict__" : Str)) = false) (hd2 : (y == ("__debug__" : Str)) = false) (hn2 : (y == ("__classdict__" : Str)) = false) (p : Φ (.bytes (encB k)) σ) :
    EV c env n Γ σ (eval (.Call (.Name "bytes" p1) [.ListComp (.Call (.Name "ord" p2) [.Name y p3] [] p4) [⟨.Name y p5, .Name x p6, [], 0⟩] scope p7] [] p8) env) Φ := by
  refine ev_callT hb1 rfl hb2 (lv_cons (ev_comp (cl := []) hclos hcell hkind hnames hx (fun p hp => nomatch hp) (by simp) [] trivial rfl ?_))
  refine ie_of (ev_var hk ⟨_, iv_str, fun rem acc σ' => σ' = σ ∧ ∃ q, q ≤ k.cps.toList.length ∧ rem = (k.cps.toList.drop q).map (fun ch => V.str ⟨#[ch]⟩) ∧ acc = (k.cps.toList.take q).map (fun (ch : Nat) => V.int ch), ⟨rfl, 0, by omega, by simp, by simp⟩, ⟨fun rem acc σ' q => ?_, fun d r acc σ' C q => ?_⟩, fun acc σ' q => ?_⟩ hd1 hn1)
  · obtain ⟨_, q, h1, _, h2⟩ := q
    rw [h2]; simp; omega
  · obtain ⟨rfl, q, hq, q1, rfl⟩ := q
    have hqm : q < k.cps.toList.length := by
      have := congrArg List.length q1
      simp at this; simp; omega
    rw [List.drop_eq_getElem_cons hqm, List.map_cons] at q1
    injection q1 with q1 q2
    subst q1 q2
    refine tl_nil ?_
    rw [if_pos rfl]
    refine ev_callB ho1 rfl (ho2 C) (lv_cons (ev_var (by rw [List.lookup_cons_self]) (lv_nil (cv_ord ⟨rfl, q + 1, by omega, rfl, ?_⟩)) hd2 hn2))
    rw [List.take_succ, List.map_append, List.getElem?_eq_getElem hqm]; rfl
  · obtain ⟨rfl, q, hq, q1, rfl⟩ := q
    have : q = k.cps.toList.length := by
      have := congrArg List.length q1
      simp at this; simp at hq ⊢; omega
    subst this
    rw [List.take_length]
    refine lv_nil (cv_bytesL (ns := k.cps.toList.map fun (ch : Nat) => (ch : Int)) ?_ ?_ (by simp at hs ⊢; omega) p)
    · rw [List.map_map]; exact IsLs.fr
    · intro i hi
      obtain ⟨ch, hch, rfl⟩ := List.mem_map.mp hi
      have := hr ch hch
      omega
theorem dput_len {K α : Type} [DecidableEq K] {x : K} {d : α} : ∀ {l : List (K × α)}, (dput l x d).length ≤ l.length + 1
  | [] => by simp [dput]
  | (a, e) :: r => by
    unfold dput
    split
    · simp
    · have := dput_len (x := x) (d := d) (l := r); simp only [List.length_cons]; omega
noncomputable def stepO (old : List (Str × V)) (R : V → V) (f : List (List UInt8 × V)) (k : Str) : List (List UInt8 × V) := dput f (encB k) (R ((dl old k).getD .none))
noncomputable def stepN (R : V → V) (f : List (List UInt8 × V)) (q : List UInt8 × V) : List (List UInt8 × V) := dput f q.1 (R q.2)
/-- what named answers -/
noncomputable def namedD (old : List (Str × V)) (kvs : List (List UInt8 × V)) (R : V → V) : List (List UInt8 × V) := kvs.foldl (stepN R) ((srt .s (old.map (·.1))).foldl (stepO old R) [])
end
end Mine
end

section
open PySem PySem.W PyProof.Rows PySem.Calls PySem.Spec
set_option maxRecDepth 100000
namespace Mine
section
variable {c : Cx} {env : Env} {n : Nat} {Γ : Gm} {σ : St} {Φ : V → St → Prop} {Ψ : Fl → Gm → St → Prop}
theorem at1 {α : Type} (σ : List α) (x : α) : (σ ++ [x])[σ.length]? = some x := by simp
theorem c_named {tbl : List (Int × V)} {tr : V} {old : List (Str × V)} {kvs : List (List UInt8 × V)} {R : V → V} (hz1 : old.length ≤ 20) (hz2 : kvs.length ≤ 20) (hkeys : ∀ k ∈ old.map (·.1), k.cps.toList.length ≤ 100 ∧ ∀ ch ∈ k.cps.toList, ch < 256)
    (ho : ∀ {n : Nat} {σ : St} {Φ : V → St → Prop}, Φ (.ds old) σ → FC c (n + 4) (.ref 573) [shelfV (.di tbl) tr] σ Φ)
    (hr : ((∀ {n : Nat} {σ : St} {Φ : V → St → Prop}, Φ .none σ → FC c (n + 4) (.ref 566) [shelfV (.di tbl) tr] σ Φ) ∧ kvs = []) ∨ ∃ r, (∀ {n : Nat} {σ : St} {Φ : V → St → Prop}, Φ (refV r 0) σ → FC c (n + 4) (.ref 566) [shelfV (.di tbl) tr] σ Φ) ∧ NTree c.w tbl r kvs)
    (hR1 : ∀ p ∈ old, ∀ {n : Nat} {σ : St} {Φ : V → St → Prop}, Φ (R p.2) σ → FC c (n + 5) (.ref 587) [shelfV (.di tbl) tr, p.2] σ Φ)
    (hR2 : ∀ p ∈ kvs, ∀ {n : Nat} {σ : St} {Φ : V → St → Prop}, Φ (R p.2) σ → FC c (n + 5) (.ref 587) [shelfV (.di tbl) tr, p.2] σ Φ)
    (p : Φ (.db (namedD old kvs R)) σ) : FC c (n + 7) (.ref 597) [shelfV (.di tbl) tr] σ Φ := by
  have hlen : (srt .s (old.map (·.1))).length = old.length := by rw [(srt_perm .s _).length_eq, List.length_map]
  refine' fc_def ?ho ?hcd [Str.ofString "shelf"] ?hb ?hl ?hx ?hkd ?hnd ?_ ?h1 ?h2 ?h3
  case ho => k_is
  case hcd => k_is
  case hl => rfl
  case hx => decide +kernel
  case hkd => kernel_rfl!
  case hnd => decide +kernel
  case h1 => rfl
  case h2 => rfl
  case h3 => rfl
  case hb =>
    intro s vs X hv
    obtain ⟨u0, rfl⟩ := len1 hv
    first | exact BindsTo.of_eq rfl | exact kp_binds (K := HpK c.w.params) X (fun S => by kernel_rfl!)
  intro L
  refine xs_cons (x_assign (ev_dict0C .b fun a => ?_) (by kernel_rfl!))
  refine xs_cons (x_assign (ev_call (by k_is) (by kernel_rfl!) (by k_is) (lv_cons (ev_var rfl (lv_nil (FC.cv (ho ?_)))))) (by kernel_rfl!))
  refine xs_cons (x_for (ie_of (ev_callB (by k_is) rfl (by kernel_rfl!) (lv_cons (ev_var rfl (lv_nil (cv_sorted .s (es := old) IsD.frS (by omega) ⟨_, iv_list, ?_⟩)))))))
  refine ⟨fun rem Γ' σ' => Γ'.lookup (Str.ofString "found") = some (.cell a) ∧ Γ'.lookup (Str.ofString "old") = some (.ds old) ∧ Γ'.lookup (Str.ofString "shelf") = some (shelfV (.di tbl) tr) ∧ ∃ (f : List (List UInt8 × V)) (ks : List Str), rem = ks.map (V.key .s) ∧ (∀ k ∈ ks, k ∈ old.map (·.1)) ∧ ks.foldl (stepO old R) f = (srt .s (old.map (·.1))).foldl (stepO old R) [] ∧ f.length + ks.length ≤ 20 ∧ σ' = σ ++ [(a, .dict .b f)],
    ⟨rfl, rfl, rfl, [], _, rfl, fun k hk => srt_mem hk, rfl, by simp [hlen]; omega, rfl⟩, fun d r Γ' σ' q => ?_, fun Γ' σ' q => ?_⟩
  · obtain ⟨g1, g2, g3, f, ks, e1, e2, e3, e4, rfl⟩ := q
    cases ks with
    | nil => cases e1
    | cons k ks =>
      rw [List.map_cons] at e1
      injection e1 with e1 e1'
      subst e1 e1'
      obtain ⟨v, hv, hm⟩ := dl_some (e2 k (.head _))
      obtain ⟨k1, k2⟩ := hkeys k (e2 k (.head _))
      refine ⟨_, av_name (by kernel_rfl!), ?_⟩
      refine xs_cons (x_setitem (ev_call (by k_is) (by kernel_rfl!) (by k_is) (lv_cons (ev_var g3 (lv_cons (ev_sub (ev_var g2 (ev_var rfl (p2_dget .s IsD.frS rfl hv (lv_nil (FC.cv (hR1 _ hm ?_))))))))))))
      refine ev_var g1 (ev_enc rfl k1 k2 (by k_is) (by kernel_rfl!) (by k_is) (fun C => by kernel_rfl!) rfl (by decide) rfl (by decide) (by decide) (by decide) (by decide) (by decide) (by decide) (s3_dict .b _ (at1 _ _) rfl (by simp at e4; omega) ?_))
      rw [set_last]
      refine xs_nil ⟨g1, g2, g3, _, ks, rfl, fun x hx => e2 x (.tail _ hx), ?_, ?_, rfl⟩
      · rw [← e3, List.foldl_cons]
        unfold stepO
        rw [hv, Option.getD_some]
      · exact Nat.le_trans (Nat.add_le_add_right dput_len _) (by simp at e4; omega)
  · obtain ⟨g1, g2, g3, f, ks, e1, e2, e3, e4, rfl⟩ := q
    have hks : ks = [] := by
      cases ks with
      | nil => rfl
      | cons _ _ => cases e1
    subst hks
    rw [List.foldl_nil] at e3
    rcases hr with ⟨hr, rfl⟩ | ⟨r, hr, nt⟩
    · refine xs_cons (x_assign (ev_call (by k_is) (by kernel_rfl!) (by k_is) (lv_cons (ev_var g3 (lv_nil (FC.cv (hr ?_)))))) (by kernel_rfl!))
      refine xs_cons (x_if (tv_cmp (ev_var rfl (ev_none (p2_isnot rfl ⟨_, rfl, ?_⟩)))))
      refine xs_nil ?_
      subst e3
      refine xs_frz (a := a) (m := .dict .b ((srt .s (old.map (·.1))).foldl (stepO old R) [])) (List.mem_singleton.mpr rfl) rfl (Γ' := [(Str.ofString "found", .db ((srt .s (old.map (·.1))).foldl (stepO old R) []))]) ?hg ?_
      case hg => exact ⟨⟨_, g1, .cell⟩, trivial⟩
      exact xs_cons (x_ret (ev_var rfl ⟨_, σ, .inl rfl, List.Sublist.refl _, p⟩))
    · refine xs_cons (x_assign (ev_call (by k_is) (by kernel_rfl!) (by k_is) (lv_cons (ev_var g3 (lv_nil (FC.cv (hr ?_)))))) (by kernel_rfl!))
      refine xs_cons (x_if (tv_cmp (ev_var rfl (ev_none (p2_isnot rfl ⟨_, rfl, ?_⟩)))))
      refine xs_cons (x_for (ie_of (ev_call (by k_is) (by kernel_rfl!) (by k_is) (lv_cons (ev_var g3 (lv_cons (ev_var rfl (lv_cons (ev_str (lv_nil (FC.cv (c_tree_pairs (by omega) nt ⟨_, iv_list, ?_⟩)))))))))))) 
      refine ⟨fun rem Γ' σ' => Γ'.lookup (Str.ofString "found") = some (.cell a) ∧ Γ'.lookup (Str.ofString "shelf") = some (shelfV (.di tbl) tr) ∧ ∃ (f : List (List UInt8 × V)) (ks : List (List UInt8 × V)), rem = ks.map pairV ∧ (∀ k ∈ ks, k ∈ kvs) ∧ ks.foldl (stepN R) f = namedD old kvs R ∧ f.length + ks.length ≤ 40 ∧ σ' = σ ++ [(a, .dict .b f)],
        ⟨g1, g3, f, kvs, rfl, fun k hk => hk, by rw [e3]; rfl, by simp at e4; omega, rfl⟩, fun d r Γ' σ' q => ?_, fun Γ' σ' q => ?_⟩
      · obtain ⟨g1, g3, f, ks, e1, e2, e3, e4, rfl⟩ := q
        cases ks with
        | nil => cases e1
        | cons k ks =>
          rw [List.map_cons] at e1
          injection e1 with e1 e1'
          subst e1 e1'
          refine ⟨_, av_tuple rfl rfl (.cons (av_name (by kernel_rfl!)) (.cons (av_name (by kernel_rfl!)) .nil)), ?_⟩
          refine xs_cons (x_setitem (ev_call (by k_is) (by kernel_rfl!) (by k_is) (lv_cons (ev_var g3 (lv_cons (ev_var rfl (lv_nil (FC.cv (hR2 k (e2 k (.head _)) ?_)))))))))
          refine ev_var g1 (ev_var rfl (s3_dict .b _ (at1 _ _) rfl (by simp at e4; omega) ?_))
          rw [set_last]
          refine xs_nil ⟨g1, g3, _, ks, rfl, fun x hx => e2 x (.tail _ hx), ?_, ?_, rfl⟩
          · rw [← e3, List.foldl_cons]; rfl
          · exact Nat.le_trans (Nat.add_le_add_right dput_len _) (by simp at e4; omega)
      · obtain ⟨g1, g3, f, ks, e1, e2, e3, e4, rfl⟩ := q
        have hks : ks = [] := by
          cases ks with
          | nil => rfl
          | cons _ _ => cases e1
        subst hks
        rw [List.foldl_nil] at e3
        subst e3
        refine xs_nil ?_
        refine xs_frz (a := a) (m := .dict .b (namedD old kvs R)) (List.mem_singleton.mpr rfl) rfl (Γ' := [(Str.ofString "found", .db (namedD old kvs R))]) ?hg ?_
        case hg => exact ⟨⟨_, g1, .cell⟩, trivial⟩
        exact xs_cons (x_ret (ev_var rfl ⟨_, σ, .inl rfl, List.Sublist.refl _, p⟩))
end
end Mine
end

section
open PySem PySem.W PyProof.Rows PySem.Calls PySem.Spec
set_option maxRecDepth 100000
namespace Mine
section
variable {c : Cx} {env : Env} {n : Nat} {Γ : Gm} {σ : St} {Φ : V → St → Prop} {Ψ : Fl → Gm → St → Prop}
/-- what broken_names answers -/
noncomputable def lostD (G : List (List UInt8 × V)) (B : V → Bool) : List V := ((srt .b (G.map (·.1))).filter fun k => B ((dl G k).getD .none)).map (V.key .b)
theorem c_broken {tbl : List (Int × V)} {tr : V} {G : List (List UInt8 × V)} {B : V → Bool} (hz : G.length ≤ 40) (ho : ∀ {n : Nat} {σ : St} {Φ : V → St → Prop}, Φ (.db G) σ → FC c (n + 7) (.ref 597) [shelfV (.di tbl) tr] σ Φ)
    (hB : ∀ p ∈ G, (p.2 = V.none ∧ B p.2 = true) ∨ (vis p.2 .none = some false ∧ ∃ i : Int, B p.2 = decide (i < 0) ∧ ∀ {n : Nat} {σ : St} {Φ : V → St → Prop}, Φ (.int i) σ → FC c (n + 8) (.ref 592) [shelfV (.di tbl) tr, p.2] σ Φ))
    (p : Φ (.list (lostD G B)) σ) : FC c (n + 9) (.ref 604) [shelfV (.di tbl) tr] σ Φ := by
  have hlen : (srt .b (G.map (·.1))).length = G.length := by rw [(srt_perm .b _).length_eq, List.length_map]
  refine' fc_def ?ho ?hcd [Str.ofString "shelf"] ?hb ?hl ?hx ?hkd ?hnd ?_ ?h1 ?h2 ?h3
  case ho => k_is
  case hcd => k_is
  case hl => rfl
  case hx => decide +kernel
  case hkd => kernel_rfl!
  case hnd => decide +kernel
  case h1 => rfl
  case h2 => rfl
  case h3 => rfl
  case hb =>
    intro s vs X hv
    obtain ⟨u0, rfl⟩ := len1 hv
    first | exact BindsTo.of_eq rfl | exact kp_binds (K := HpK c.w.params) X (fun S => by kernel_rfl!)
  intro L
  refine xs_cons (x_assign (ev_listC (lv_nil ⟨?_, fun a => ?_⟩)) (by kernel_rfl!))
  · rw [sizeLine_eq]; simp
  refine xs_cons (x_assign (ev_call (by k_is) (by kernel_rfl!) (by k_is) (lv_cons (ev_var rfl (lv_nil (FC.cv (ho ?_)))))) (by kernel_rfl!))
  refine xs_cons (x_for (ie_of (ev_callB (by k_is) rfl (by kernel_rfl!) (lv_cons (ev_var rfl (lv_nil (cv_sorted .b (es := G) IsD.frB (by omega) ⟨_, iv_list, ?_⟩)))))))
  refine ⟨fun rem Γ' σ' => Γ'.lookup (Str.ofString "found") = some (.cell a) ∧ Γ'.lookup (Str.ofString "goals") = some (.db G) ∧ Γ'.lookup (Str.ofString "shelf") = some (shelfV (.di tbl) tr) ∧ ∃ (f : List V) (ks : List (List UInt8)), rem = ks.map (V.key .b) ∧ (∀ k ∈ ks, k ∈ G.map (·.1)) ∧ f ++ (ks.filter fun k => B ((dl G k).getD .none)).map (V.key .b) = lostD G B ∧ f.length + ks.length ≤ 40 ∧ σ' = σ ++ [(a, .list f)],
    ⟨rfl, rfl, rfl, [], _, rfl, fun k hk => srt_mem hk, rfl, by simp [hlen]; omega, rfl⟩, fun d r Γ' σ' q => ?_, fun Γ' σ' q => ?_⟩
  · obtain ⟨g1, g2, g3, f, ks, e1, e2, e3, e4, rfl⟩ := q
    cases ks with
    | nil => cases e1
    | cons k ks =>
      rw [List.map_cons] at e1
      injection e1 with e1 e1'
      subst e1 e1'
      obtain ⟨v, hv, hm⟩ := dl_some (e2 k (.head _))
      have hlt : f.length ≤ 40 := by simp at e4; omega
      have hle : f.length + 1 + ks.length ≤ 40 := by simp at e4; omega
      rw [List.filter_cons, hv, Option.getD_some] at e3
      refine ⟨_, av_name (by kernel_rfl!), ?_⟩
      refine xs_cons (x_if (tv_or (tv_cmp (ev_sub (ev_var g2 (ev_var rfl (p2_dget .b IsD.frB rfl hv ?_)))))))
      rcases hB _ hm with ⟨h1, h2⟩ | ⟨h1, i, h2, h3⟩
      · have h1 : v = V.none := h1
        have h2 : B v = true := h2
        rw [h2, if_pos rfl] at e3
        subst h1
        refine ev_none (p2_is rfl ⟨_, rfl, ?_⟩)
        refine xs_cons (x_expr (ev_methB (ev_var g1 ⟨_, mok_list (IsLs.at_ _ (at1 _ _)) PySem.F.slot_list_append PySem.F.type_list_append, lv_cons (ev_var rfl (lv_nil (cv_append _ (at1 _ _) (by omega) ?_)))⟩)))
        rw [set_last]
        refine xs_nil (xs_nil ⟨g1, g2, g3, _, ks, rfl, fun x hx => e2 x (.tail _ hx), ?_, by simp; omega, rfl⟩)
        rw [← e3]; simp
      · refine ev_none (p2_is h1 ⟨_, rfl, ?_⟩)
        refine tv_or (tv_cmp (ev_call (by k_is) (by kernel_rfl!) (by k_is) (lv_cons (ev_var g3 (lv_cons (ev_sub (ev_var g2 (ev_var rfl (p2_dget .b IsD.frB rfl hv ?_)))))))))
        refine lv_nil (FC.cv (h3 (ev_int (p2_lt ⟨_, rfl, ?_⟩))))
        have h2 : B v = decide (i < 0) := h2
        rw [h2] at e3
        cases hb : decide (i < 0) with
        | true =>
          rw [hb, if_pos rfl] at e3
          refine xs_cons (x_expr (ev_methB (ev_var g1 ⟨_, mok_list (IsLs.at_ _ (at1 _ _)) PySem.F.slot_list_append PySem.F.type_list_append, lv_cons (ev_var rfl (lv_nil (cv_append _ (at1 _ _) (by omega) ?_)))⟩)))
          rw [set_last]
          refine xs_nil (xs_nil ⟨g1, g2, g3, _, ks, rfl, fun x hx => e2 x (.tail _ hx), ?_, by simp; omega, rfl⟩)
          rw [← e3]; simp
        | false =>
          rw [hb, if_neg Bool.false_ne_true] at e3
          refine tv_or_nil ?_
          exact xs_nil (xs_nil ⟨g1, g2, g3, f, ks, rfl, fun x hx => e2 x (.tail _ hx), e3, by omega, rfl⟩)
  · obtain ⟨g1, g2, g3, f, ks, e1, e2, e3, e4, rfl⟩ := q
    have hks : ks = [] := by
      cases ks with
      | nil => rfl
      | cons _ _ => cases e1
    subst hks
    rw [List.filter_nil, List.map_nil, List.append_nil] at e3
    subst e3
    refine xs_frz (a := a) (m := .list (lostD G B)) (List.mem_singleton.mpr rfl) rfl (Γ' := [(Str.ofString "found", .list (lostD G B))]) ?hg ?_
    case hg => exact ⟨⟨_, g1, .cell⟩, trivial⟩
    exact xs_cons (x_ret (ev_var rfl ⟨_, σ, .inl rfl, List.Sublist.refl _, p⟩))
end
end Mine
end

section
open PySem PySem.W PyProof.Rows PySem.Calls PySem.Spec
set_option maxRecDepth 100000
namespace Mine
section
variable {c : Cx} {env : Env} {n : Nat} {Γ : Gm} {σ : St} {Φ : V → St → Prop} {Ψ : Fl → Gm → St → Prop}
theorem c_draw {a : Addr} {many x y : Int} (j : Nat) (hc : σ[j]? = some (a, .list [.int x, .int y])) (hm : 0 < many) (hm2 : many < 1000) (hy : 0 ≤ y ∧ y < 100000)
   (p : ∀ d x' : Int, 0 ≤ d → d < many → Φ (.int d) (σ.set j (a, .list [.int x', .int (y + 1)]))) : FC c (n + 1) (.ref 618) [.cell a, .int many] σ Φ := by
  refine' fc_def ?ho ?hcd [Str.ofString "pen", Str.ofString "many"] ?hb ?hl ?hx ?hkd ?hnd ?_ ?h1 ?h2 ?h3
  case ho => k_is
  case hcd => k_is
  case hl => rfl
  case hx => decide +kernel
  case hkd => kernel_rfl!
  case hnd => decide +kernel
  case h1 => rfl
  case h2 => rfl
  case h3 => rfl
  case hb =>
    intro s vs X hv
    obtain ⟨u0, u1, rfl⟩ := len2 hv
    first | exact BindsTo.of_eq rfl | exact kp_binds (K := HpK c.w.params) X (fun S => by kernel_rfl!)
  intro L
  have hj : j < σ.length := (List.getElem?_eq_some_iff.mp hc).1
  refine xs_cons (x_setitem (ev_binop (ev_sub (ev_var rfl (ev_int (p2_itemC j hc (by decide) (by decide) rfl (ev_int (p2_add ?_))))))))
  refine ev_var rfl (ev_int (s3_list j hc (by decide) (by decide) (by simp) ?_))
  have hc1 : (σ.set j (a, .list [.int x, .int (y + 1)]))[j]? = some (a, .list [.int x, .int (y + 1)]) := by simp [hj]
  refine xs_cons (x_if (tv_cmp (ev_sub (ev_var rfl (ev_int (p2_itemC j hc1 (by decide) (by decide) rfl (ev_int (p2_gt ⟨_, rfl, ?_⟩))))))))
  cases hx : decide (0 < x) with
  | true =>
    refine xs_cons (x_assign (ev_binop (ev_sub (ev_var rfl (ev_int (p2_itemC j hc1 (by decide) (by decide) rfl (ev_var rfl (p2_mod (by omega) ?_))))))) (by kernel_rfl!))
    refine xs_cons (x_setitem (ev_binop (ev_sub (ev_var rfl (ev_int (p2_itemC j hc1 (by decide) (by decide) rfl (ev_var rfl (p2_div (by omega) (by omega) ?_))))))))
    refine ev_var rfl (ev_int (s3_list j hc1 (by decide) (by decide) (by simp) ?_))
    refine xs_cons (x_ret (ev_var rfl (ret_ok ?_)))
    have := p (x.fmod many) (x.fdiv many) (Int.fmod_nonneg_of_pos _ hm) (Int.fmod_lt_of_pos _ hm)
    simpa using this
  | false =>
    refine xs_nil ?_
    refine xs_cons (x_ret (ev_binop (ev_binop (ev_binop (ev_sub (ev_var rfl (ev_int (p2_itemC j hc1 (by decide) (by decide) rfl ?_))))))))
    refine ev_sub (ev_var rfl (ev_int (p2_itemC j hc1 (by decide) (by decide) rfl ?_)))
    refine p2_mul (.of_left (intBits_le_64 (by omega) (by omega))) (ev_int (p2_add (ev_var rfl (p2_mod (by omega) ?_))))
    refine (ret_ok ?_)
    have := p (((y + 1) * (y + 1) + 1).fmod many) x (Int.fmod_nonneg_of_pos _ hm) (Int.fmod_lt_of_pos _ hm)
    simpa using this
end
end Mine
end

section
open PySem PySem.W PyProof.Rows PySem.Calls PySem.Spec
set_option maxRecDepth 100000
namespace Mine
section
variable {c : Cx} {env : Env} {n : Nat} {Γ : Gm} {σ : St} {Φ : V → St → Prop} {Ψ : Fl → Gm → St → Prop}
theorem c_Dec_init {dx : Addr} : FC c (n + 1) (.ref 75) [.raw 155 dx, .int 25, .int 1] (σ ++ [(dx, .attrs [])]) (IniR dx σ [("top", .int 25), ("places", .int 1)]) := by
  refine' fc_def ?ho ?hcd [Str.ofString "self", Str.ofString "top", Str.ofString "places"] ?hb ?hl ?hx ?hkd ?hnd ?_ ?h1 ?h2 ?h3
  case ho => k_is
  case hcd => k_is
  case hl => rfl
  case hx => decide +kernel
  case hkd => kernel_rfl!
  case hnd => decide +kernel
  case h1 => rfl
  case h2 => rfl
  case h3 => rfl
  case hb =>
    intro s vs X hv
    obtain ⟨u0, u1, u2, rfl⟩ := len3 hv
    first | exact BindsTo.of_eq rfl | exact kp_binds (K := HpK c.w.params) X (fun S => by kernel_rfl!)
  intro L
  refine xs_cons (x_while (fun m Γ' σ' => Γ' = [(Str.ofString "self", .raw 155 dx), (Str.ofString "top", .int 25), (Str.ofString "places", .int 1)] ∧ σ' = σ ++ [(dx, .attrs [])]) 0 ⟨rfl, rfl⟩ ?_)
  rintro m Γ' σ' ⟨rfl, rfl⟩
  refine tv_and (tv_cmp (ev_var rfl (ev_int (p2_gt ⟨_, rfl, ?_⟩))))
  rw [show decide ((0 : Int) < 1) = true from rfl, if_pos rfl]
  refine tv_and (tv_cmp (ev_binop (ev_var rfl (ev_int (p2_mod (by decide) (ev_int (p2_eqi ⟨_, rfl, ?_⟩)))))))
  rw [show ((25 : Int).fmod 10 == 0) = false by decide]
  refine xs_cons (x_self rfl ⟨by k_is, by k_is, by k_is, by k_is⟩ (ev_var rfl ⟨_, _, rfl, rfl, by simp, ?_⟩))
  refine xs_cons (x_self rfl ⟨by k_is, by k_is, by k_is, by k_is⟩ (ev_var rfl ⟨_, _, rfl, rfl, by simp, ?_⟩))
  exact ini_end ⟨rfl, trivial⟩
theorem c_Dec (p : Φ decV σ) : FC c (n + 2) (.ref 155) [.int 25, .int 1] σ Φ :=
  fc_newI (fI := 75) (by k_is) (by k_is) (by k_is) (fun dx => c_Dec_init) p
end
end Mine
end

section
open PySem PySem.W PyProof.Rows PySem.Calls PySem.Spec
set_option maxRecDepth 100000
namespace Mine
section
variable {c : Cx} {env : Env} {n : Nat} {Γ : Gm} {σ : St} {Φ : V → St → Prop} {Ψ : Fl → Gm → St → Prop}
noncomputable def numL : List V := [.none, .int 3, decV, nameV "A", .bool true]
theorem num_at {d : Int} (h0 : 0 ≤ d) (h5 : d < 5) : ∃ v, numL[d.toNat]? = some v ∧ Num v := by
  have : d = 0 ∨ d = 1 ∨ d = 2 ∨ d = 3 ∨ d = 4 := by omega
  rcases this with rfl | rfl | rfl | rfl | rfl
  · exact ⟨_, rfl, .none⟩
  · exact ⟨_, rfl, .int⟩
  · exact ⟨_, rfl, .dec⟩
  · exact ⟨_, rfl, .name⟩
  · exact ⟨_, rfl, .bool⟩
theorem set_at {α : Type} {l : List α} {j : Nat} {x : α} (h : j < l.length) : (l.set j x)[j]? = some x := by simp [h]
theorem c_number {a : Addr} {x y : Int} (j : Nat) (hc : σ[j]? = some (a, .list [.int x, .int y])) (hy : 0 ≤ y ∧ y < 90000)
    (p : ∀ v x' y', Num v → y ≤ y' → y' ≤ y + 2 → Φ v (σ.set j (a, .list [.int x', .int y']))) : FC c (n + 3) (.ref 630) [.cell a] σ Φ := by
  have hj : j < σ.length := (List.getElem?_eq_some_iff.mp hc).1
  refine' fc_def ?ho ?hcd [Str.ofString "pen"] ?hb ?hl ?hx ?hkd ?hnd ?_ ?h1 ?h2 ?h3
  case ho => k_is
  case hcd => k_is
  case hl => rfl
  case hx => decide +kernel
  case hkd => kernel_rfl!
  case hnd => decide +kernel
  case h1 => rfl
  case h2 => rfl
  case h3 => rfl
  case hb =>
    intro s vs X hv
    obtain ⟨u0, rfl⟩ := len1 hv
    first | exact BindsTo.of_eq rfl | exact kp_binds (K := HpK c.w.params) X (fun S => by kernel_rfl!)
  intro L
  refine xs_cons (x_ret (ev_sub (ev_list (lv_cons (ev_none (lv_cons (ev_int (lv_cons ?_))))))))
  refine ev_call (by k_is) (by kernel_rfl!) (by k_is) (lv_cons (ev_int (lv_cons (ev_int (lv_nil (FC.cv (c_Dec ?_)))))))
  refine lv_cons (ev_call (by k_is) (by kernel_rfl!) (by k_is) (lv_cons (ev_str (lv_nil (FC.cv (c_Name ?_))))))
  refine lv_cons (ev_true (lv_nil ⟨?_, ?_⟩))
  · rw [sizeLine_eq]; simp
  refine ev_ifexp (tv_cmp (ev_call (by k_is) (by kernel_rfl!) (by k_is) (lv_cons (ev_var rfl (lv_cons (ev_int (lv_nil (FC.cv (c_draw j hc (by omega) (by omega) (by omega) fun d x' h1 h2 => ?_)))))))))
  refine ev_int (p2_eqi ⟨_, rfl, ?_⟩)
  have hc' := set_at (x := (a, MO.list [.int x', .int (y + 1)])) hj
  have hss : ∀ (x'' y'' : Int), (σ.set j (a, MO.list [.int x', .int (y + 1)])).set j (a, .list [.int x'', .int y'']) = σ.set j (a, .list [.int x'', .int y'']) := fun x'' y'' => by simp
  cases d == 0 with
  | true =>
    refine ev_call (by k_is) (by kernel_rfl!) (by k_is) (lv_cons (ev_var rfl (lv_cons (ev_int (lv_nil (FC.cv (c_draw j hc' (by omega) (by omega) (by omega) fun d x'' h1 h2 => ?_)))))))
    obtain ⟨v, hv, hN⟩ := num_at h1 h2
    rw [hss]
    exact p2_litem (ds := numL) IsLs.fr h1 (by omega) hv (ret_ok (p _ _ _ hN (by omega) (by omega)))
  | false =>
    refine ev_call (by k_is) (by kernel_rfl!) (by k_is) (lv_cons (ev_var rfl (lv_cons (ev_int (lv_nil (FC.cv (c_draw j hc' (by omega) (by omega) (by omega) fun d x'' h1 h2 => ?_)))))))
    obtain ⟨v, hv, hN⟩ := num_at h1 (by omega)
    rw [hss]
    exact p2_litem (ds := numL) IsLs.fr h1 (by omega) hv (ret_ok (p _ _ _ hN (by omega) (by omega)))
end
end Mine
end

section
open PySem PySem.W PyProof.Rows PySem.Calls PySem.Spec
set_option maxRecDepth 100000
namespace Mine
section
variable {c : Cx} {env : Env} {n : Nat} {Γ : Gm} {σ : St} {Φ : V → St → Prop} {Ψ : Fl → Gm → St → Prop}
theorem c_pen {ns : List Int} (hz : ns.length ≤ 1000) (p : ∀ x a, Φ (.cell a) (σ ++ [(a, .list [.int x, .int 0])])) : FC c (n + 1) (.ref 611) [.list (ns.map V.int)] σ Φ := by
  refine' fc_def ?ho ?hcd [Str.ofString "script"] ?hb ?hl ?hx ?hkd ?hnd ?_ ?h1 ?h2 ?h3
  case ho => k_is
  case hcd => k_is
  case hl => rfl
  case hx => decide +kernel
  case hkd => kernel_rfl!
  case hnd => decide +kernel
  case h1 => rfl
  case h2 => rfl
  case h3 => rfl
  case hb =>
    intro s vs X hv
    obtain ⟨u0, rfl⟩ := len1 hv
    first | exact BindsTo.of_eq rfl | exact kp_binds (K := HpK c.w.params) X (fun S => by kernel_rfl!)
  intro L
  refine xs_cons (x_assign (ev_int ?_) (by kernel_rfl!))
  refine xs_cons (x_for (ie_of (ev_upto (k := 24) (ev_var rfl ⟨_, IsLs.fr, by rw [sizeLine_eq]; simp; omega, ?_⟩))))
  refine ⟨_, iv_list, fun rem Γ' σ' => σ' = σ ∧ ∃ (z : Int) (ks : List Int), Γ'.lookup (Str.ofString "number") = some (.int z) ∧ rem = ks.map V.int, ⟨rfl, 0, ns.take 24, rfl, by rw [List.map_take]⟩, fun d r Γ' σ' q => ?_, fun Γ' σ' q => ?_⟩
  · obtain ⟨rfl, z, ks, g1, e1⟩ := q
    cases ks with
    | nil => cases e1
    | cons k ks =>
      rw [List.map_cons] at e1
      injection e1 with e1 e1'
      subst e1 e1'
      refine ⟨_, av_name (by kernel_rfl!), ?_⟩
      refine xs_cons (x_assign (ev_binop (ev_binop (ev_binop (ev_binop (ev_var g1 (ev_int (p2_mul (.of_right (intBits_le_64 (by decide) (by decide))) ?_))))))) (by kernel_rfl!))
      refine ev_binop (ev_int (ev_callB (by k_is) rfl (by kernel_rfl!) (lv_cons (ev_var rfl (lv_nil (cv_abs (p2_mul (.of_left (intBits_le_64 (by decide) (by decide))) (p2_add ?_))))))))
      refine ev_ifexp (tv_cmp (ev_var rfl (ev_int (p2_lt ⟨_, rfl, ?_⟩))))
      cases decide (k < 0) with
      | true => exact ev_int (p2_add (ev_int (p2_add (xs_nil ⟨rfl, _, ks, rfl, rfl⟩))))
      | false => exact ev_int (p2_add (ev_int (p2_add (xs_nil ⟨rfl, _, ks, rfl, rfl⟩))))
  · obtain ⟨rfl, z, ks, g1, e1⟩ := q
    refine xs_cons (x_ret (ev_listC (lv_cons (ev_var g1 (lv_cons (ev_int (lv_nil ⟨?_, fun a => (ret_ok (p z a))⟩)))))))
    rw [sizeLine_eq]; simp
end
end Mine
end

section
open PySem PySem.W PyProof.Rows PySem.Calls PySem.Spec
set_option maxRecDepth 100000
namespace Mine
section
variable {c : Cx} {env : Env} {n : Nat} {Γ : Gm} {σ : St} {Φ : V → St → Prop} {Ψ : Fl → Gm → St → Prop}
theorem c_Shelf_init {dx : Addr} {a b : V} (ha : vis a .none = some false) (hb : vis b .none = some false) : FC c (n + 1) (.ref 292) [.raw 363 dx, a, b] (σ ++ [(dx, .attrs [])]) (IniR dx σ [("table", a), ("trailer", b)]) := by
  refine' fc_def ?ho ?hcd [Str.ofString "self", Str.ofString "table", Str.ofString "trailer"] ?hb ?hl ?hx ?hkd ?hnd ?_ ?h1 ?h2 ?h3
  case ho => k_is
  case hcd => k_is
  case hl => rfl
  case hx => decide +kernel
  case hkd => kernel_rfl!
  case hnd => decide +kernel
  case h1 => rfl
  case h2 => rfl
  case h3 => rfl
  case hb =>
    intro s vs X hv
    obtain ⟨u0, u1, u2, rfl⟩ := len3 hv
    first | exact BindsTo.of_eq rfl | exact kp_binds (K := HpK c.w.params) X (fun S => by kernel_rfl!)
  intro L
  refine xs_cons (x_self rfl ⟨by k_is, by k_is, by k_is, by k_is⟩ (ev_ifexp (tv_cmp (ev_var rfl (ev_none (p2_is ha ⟨_, rfl, ?_⟩))))))
  refine ev_var rfl ⟨_, _, rfl, rfl, by simp, ?_⟩
  refine xs_cons (x_self rfl ⟨by k_is, by k_is, by k_is, by k_is⟩ (ev_ifexp (tv_cmp (ev_var rfl (ev_none (p2_is hb ⟨_, rfl, ?_⟩))))))
  refine ev_var rfl ⟨_, _, rfl, rfl, by simp, ?_⟩
  exact ini_end ⟨rfl, trivial⟩
theorem c_Shelf {a b : V} (ha : vis a .none = some false) (hb : vis b .none = some false) (p : Φ (shelfV a b) σ) : FC c (n + 2) (.ref 363) [a, b] σ Φ :=
  fc_newI (fI := 292) (by k_is) (by k_is) (by k_is) (fun dx => c_Shelf_init ha hb) p
end
end Mine
end

section
open PySem PySem.W PyProof.Rows PySem.Calls PySem.Spec
set_option maxRecDepth 100000
namespace Mine
section
variable {c : Cx} {env : Env} {n : Nat} {Γ : Gm} {σ : St} {Φ : V → St → Prop} {Ψ : Fl → Gm → St → Prop}
theorem few {tbl : List (Int × V)} {q : Nat} (h : ∀ i : Nat, 1 ≤ i → i ≤ q → (i : Int) ∈ tbl.map (·.1)) : q ≤ tbl.length := by
  have nd : ((List.range' 1 q).map fun (i : Nat) => (i : Int)).Nodup := by
    refine List.Pairwise.map _ (fun a b hab => ?_) (List.nodup_range' (s := 1) (n := q))
    intro e; exact hab (by omega)
  have := List.Nodup.length_le_of_subset nd (l₂ := tbl.map (·.1)) (fun x hx => by
    obtain ⟨i, hi, rfl⟩ := List.mem_map.mp hx
    have := List.mem_range'_1.mp hi
    exact h i (by omega) (by omega))
  simpa using this
theorem c_add {t : Addr} {tr v : V} {tbl : List (Int × V)} (j : Nat) (hc : σ[j]? = some (t, .dict .i tbl)) (hz : tbl.length ≤ 100)
    (p : ∀ k : Int, 1 ≤ k → dl tbl k = none → Φ (refV k 0) (σ.set j (t, .dict .i (dput tbl k (.tup [.int 0, v]))))) : FC c (n + 3) (.ref 334) [shelfV (.cell t) tr, v] σ Φ := by
  refine' fc_def ?ho ?hcd [Str.ofString "self", Str.ofString "value"] ?hb ?hl ?hx ?hkd ?hnd ?_ ?h1 ?h2 ?h3
  case ho => k_is
  case hcd => k_is
  case hl => rfl
  case hx => decide +kernel
  case hkd => kernel_rfl!
  case hnd => decide +kernel
  case h1 => rfl
  case h2 => rfl
  case h3 => rfl
  case hb =>
    intro s vs X hv
    obtain ⟨u0, u1, rfl⟩ := len2 hv
    first | exact BindsTo.of_eq rfl | exact kp_binds (K := HpK c.w.params) X (fun S => by kernel_rfl!)
  intro L
  refine xs_cons (x_assign (ev_int ?_) (by kernel_rfl!))
  refine xs_cons (x_while (fun m Γ' σ' => σ' = σ ∧ Γ'.lookup (Str.ofString "self") = some (shelfV (.cell t) tr) ∧ Γ'.lookup (Str.ofString "value") = some v ∧ ∃ q : Nat, q ≤ tbl.length ∧ m = tbl.length - q ∧ Γ'.lookup (Str.ofString "number") = some (.int (q + 1 : Nat)) ∧ ∀ i : Nat, 1 ≤ i → i ≤ q → (i : Int) ∈ tbl.map (·.1)) tbl.length ⟨rfl, rfl, rfl, 0, by omega, by omega, rfl, fun i h1 h2 => by omega⟩ ?_)
  rintro m Γ' σ' ⟨rfl, g1, g2, q, hq, rfl, g3, hin⟩
  refine tv_cmp (ev_var g3 (ev_va g1 rfl (by k_is) (by k_is) (by k_is) (by k_is) (p2_in .i (IsD.at_ j hc) rfl ⟨_, rfl, ?_⟩)))
  cases hd : dl tbl ((q + 1 : Nat) : Int) with
  | some w =>
    have hm : ((q + 1 : Nat) : Int) ∈ tbl.map (·.1) := List.mem_map_of_mem (f := (·.1)) (dl_mem hd)
    have hin' : ∀ i : Nat, 1 ≤ i → i ≤ q + 1 → (i : Int) ∈ tbl.map (·.1) := fun i h1 h2 => by
      by_cases e : i = q + 1
      · rw [e]; exact hm
      · exact hin i h1 (by omega)
    have hq' := few hin'
    refine xs_cons (x_assign (ev_binop (ev_var g3 (ev_int (p2_add ?_)))) (by kernel_rfl!))
    exact xs_nil ⟨tbl.length - (q + 1), by omega, rfl, g1, g2, q + 1, hq', rfl, rfl, hin'⟩
  | none =>
    refine xs_cons (x_setitem (ev_tup (lv_cons (ev_int (lv_cons (ev_var g2 (lv_nil ⟨?_, ?_⟩)))))))
    · rw [sizeLine_eq]; simp
    refine ev_va g1 rfl (by k_is) (by k_is) (by k_is) (by k_is) (ev_var g3 (s3_dict .i j hc rfl (by omega) ?_))
    refine xs_cons (x_ret (ev_call (by k_is) (by kernel_rfl!) (by k_is) (lv_cons (ev_var g3 (lv_cons (ev_int (lv_nil (FC.cv (c_Ref ?_)))))))))
    exact (ret_ok (p _ (by omega) hd))
end
end Mine
end

section
open PySem PySem.W PyProof.Rows PySem.Calls PySem.Spec
set_option maxRecDepth 100000
namespace Mine
section
variable {c : Cx} {env : Env} {n : Nat} {Γ : Gm} {σ : St} {Φ : V → St → Prop} {Ψ : Fl → Gm → St → Prop}
theorem c_value {a t : Addr} {tr row : V} {tbl : List (Int × V)} {x y : Int} (jp jt : Nat) (hne : jp ≠ jt) (hp : σ[jp]? = some (a, .list [.int x, .int y])) (ht : σ[jt]? = some (t, .dict .i tbl)) (hy : 0 ≤ y ∧ y < 90000) (hz : tbl.length ≤ 100)
    (p1 : ∀ x', Φ row (σ.set jp (a, .list [.int x', .int (y + 1)]))) (p2 : ∀ x', Φ (.ds [(Str.ofString "D", row)]) (σ.set jp (a, .list [.int x', .int (y + 1)])))
    (p3 : ∀ x' (k : Int), 1 ≤ k → dl tbl k = none → Φ (refV k 0) ((σ.set jp (a, .list [.int x', .int (y + 1)])).set jt (t, .dict .i (dput tbl k (.tup [.int 0, row]))))) : FC c (n + 4) (.ref 652) [.cell a, shelfV (.cell t) tr, row] σ Φ := by
  refine' fc_def ?ho ?hcd [Str.ofString "pen", Str.ofString "shelf", Str.ofString "row"] ?hb ?hl ?hx ?hkd ?hnd ?_ ?h1 ?h2 ?h3
  case ho => k_is
  case hcd => k_is
  case hl => rfl
  case hx => decide +kernel
  case hkd => kernel_rfl!
  case hnd => decide +kernel
  case h1 => rfl
  case h2 => rfl
  case h3 => rfl
  case hb =>
    intro s vs X hv
    obtain ⟨u0, u1, u2, rfl⟩ := len3 hv
    first | exact BindsTo.of_eq rfl | exact kp_binds (K := HpK c.w.params) X (fun S => by kernel_rfl!)
  intro L
  refine xs_cons (x_assign (ev_call (by k_is) (by kernel_rfl!) (by k_is) (lv_cons (ev_var rfl (lv_cons (ev_int (lv_nil (FC.cv (c_draw jp hp (by omega) (by omega) (by omega) fun d x' h1 h2 => ?_)))))))) (by kernel_rfl!))
  have ht' : (σ.set jp (a, MO.list [.int x', .int (y + 1)]))[jt]? = some (t, .dict .i tbl) := by
    rw [List.getElem?_set_ne hne]; exact ht
  refine xs_cons (x_ret (ev_ifexp (tv_cmp (ev_var rfl (ev_int (p2_eqi ⟨_, rfl, ?_⟩))))))
  cases d == 0 with
  | true => exact ev_var rfl (ret_ok (p1 x'))
  | false =>
    refine ev_ifexp (tv_cmp (ev_var rfl (ev_int (p2_eqi ⟨_, rfl, ?_⟩))))
    cases d == 1 with
    | true => exact ev_dict .s (pv_cons (ev_str ⟨_, rfl, ev_var rfl (pv_nil (ret_ok (p2 x')))⟩))
    | false =>
      refine ev_sh (f := 334) rfl rfl (by k_is) (by k_is) (by k_is) (by k_is) (lv_cons (ev_var rfl (lv_nil (FC.cv (c_add jt ht' hz fun k h1 h2 => ?_)))))
      exact (ret_ok (p3 x' k h1 h2))
end
end Mine
end

section
open PySem PySem.W PyProof.Rows PySem.Calls PySem.Spec PySem.SeqAt
open AutoSeq1 (wpAny_loadPart')
set_option maxRecDepth 100000
namespace Mine

/-! an object of our own, without __eq__, against an int -/
section
variable {prog : Program} {w : World} {A : Around} {E : Value → Shared → Prop} {s : Shared} {K : Frag} {x C : Addr} {ox : Obj} {od : Option Obj}
theorem objEq_int {i : Int} {t : Tok} {M : Model} {Q : Fin → Shared → Prop} (h : Q (.done (.ret .notImplemented)) s) : wpAny M A (Builtin.«object.__eq__» ⟨[.ref x, .int i t], []⟩) Q E s := by
  unfold Builtin.«object.__eq__»
  repeat wp_step
  exact h
theorem intEq_inst {i : Int} {t : Tok} {C dx l : Addr} : Meets (Builtin.«int.__eq__» ⟨[.int i t, .ref l], []⟩) (fun _ R s => s.heap.get? l = some (instObj C dx) ∧ R (.ok (.ret .notImplemented)) s) :=
  .of_wp fun prog w A R s h => by obtain ⟨hp, g, d, tk, os⟩ := s; obtain ⟨hl, h⟩ := h; wp_walk using wpAny_loadPart' hl, wpAny_load hl; exact ⟨_, rfl, h⟩
theorem try_own {i : Int} {t : Tok} {Q : Option Value → Shared → Prop} (X : K.In s.heap) (I : PySem.W.InstAt s.heap x ox C od) (hs : findIn K (.ref C) "__eq__" = some (some (.builtin "object.__eq__"))) (ho : subIn K (.ref C) (.type "object") = some true)
    (h : Q none s) : wpAny (model prog w) A (tryCompare (.ref x) "__eq__" (.int i t)) Q E s := by
  have call : ∀ {Q : Value → Shared → Prop}, Q .notImplemented s → wpAny (model prog w) A (call (.builtin "object.__eq__") [.ref x, .int i t]) Q E s := fun hq =>
    wpAny_call (codeAny_call_builtin F.cmp_object.eq.plain F.cmpEntry_eq (check_slot F.cmpKind_eq F.cmpSplit_eq (I.type.andThen (looks_subIn X ho)) (F.cmpArgs_eq _ _) (objEq_int hq)))
  unfold tryCompare
  refine wpAny_bind ?_
  simp only [callSpecialIfBound?, bindSpecialIfBound?]
  refine wpAny_holding (wpAny_bind (wpAny_bind (wpAny_bind (I.type.here ((looks_findIn X hs).here ?_)))))
  simp only [F.cmp_object.eq.bind]
  refine wpAny_bind (wpAny_askSetting (wpAny_ite ?_))
  have fin : wpAny (model prog w) A (PySem.call (.builtin "object.__eq__") ([.ref x] ++ [.int i t]) >>= fun v => pure (some v)) (fun r s' => wpAny (model prog w) A (match r with | some .notImplemented | none => pure none | some v => pure (some v)) Q E s') E s :=
    wpAny_bind (call (wpAny_pure (wpAny_pure h)))
  split
  · exact wpAny_bind (wpAny_pure (wpAny_pure fin))
  · exact wpAny_tryCatch (wpAny_bind (wpAny_pure (wpAny_pure fin)))
theorem rc_own_int {dx : Addr} {i : Int} {t : Tok} {Q : Value → Shared → Prop} (hx : s.heap.get? x = some (instObj C dx)) (X : K.In s.heap) (I : PySem.W.InstAt s.heap x ox C od) (hs : findIn K (.ref C) "__eq__" = some (some (.builtin "object.__eq__"))) (ho : subIn K (.ref C) (.type "object") = some true)
    (hi : subIn K (.type "int") (.ref C) = some false) (hu : A.units < cLine) (h : Q (.bool false) s) : wpAny (model prog w) A (richCompare .Eq (.ref x) (.int i t)) Q E s := by
  unfold richCompare
  simp only [oneThing_ref]
  refine wpAny_holding (wpAny_bind (wpAny_cRoomFor hu ?_))
  refine wpAny_bind (I.type.here (wpAny_bind (wpAny_typeOf (typeIs_int s i t) ?_)))
  rw [if_pos (by rfl)]
  refine wpAny_bind ((looks_subIn X hi).here ?_)
  simp only [Bool.false_eq_true, if_false, cmpInfo_Eq]
  refine wpAny_bind (try_own X I hs ho ?_)
  simp only [Bool.not_false, if_true]
  refine wpAny_bind (m := tryCompare (.int i t) _ (.ref x)) (wpAny_tryCompare_declines (typeIs_int s i t) F.slot_int_eq_refl (call_meets F.slot_int_eq_refl (typeIs_int s i t) F.entry_int_eq (F.args_int_eq_2 _ _) (intEq_inst (C := C) (dx := dx)) ⟨hx, rfl, ?_⟩))
  refine wpAny_bind (wpAny_rule (wpAny_bind ?_))
  show wpAny _ A (pure (Value.ref x == Value.int i t)) _ E s
  exact wpAny_pure (wpAny_pure h)
end
section
variable {c : Cx} {env : Env} {n : Nat} {Γ : Gm} {σ : St} {Φ : V → St → Prop} {Ψ : Fl → Gm → St → Prop}
theorem p2_eqOwn {C : Addr} {fs : List (Str × V)} {i : Int} (hs : findIn (HpK c.w.params) (.ref C) "__eq__" = some (some (.builtin "object.__eq__"))) (ho : subIn (HpK c.w.params) (.ref C) (.type "object") = some true)
    (hi : subIn (HpK c.w.params) (.type "int") (.ref C) = some false) (p : Φ (.bool false) σ) : P2 c n (.inst C fs) (.int i) σ (compareOp .Eq) Φ := by
  refine ⟨fun A own s u v Q E ar ow ru rv k => ?_⟩
  (first | obtain rfl := rv.inv | obtain ⟨_, rfl⟩ := rv.inv | cases rv)
  replace ru := ru.inv; obtain ⟨_, _, _, rfl, e1, e2, _, _⟩ := ru
  obtain ⟨od, I, _⟩ := inst_at (of_hideAll _ e1) (hide_ns e2)
  exact cmp_ofEq (rc_own_int (of_hideAll _ e1) (c.KIn.keeps ow.stays) I hs ho hi (by have := ar.units; show A.units < 9900; omega) (k _ _ σ own s.heap s.toks p ow (.refl _ _ _) (.bool _)))

/-- a, b, c = x, y, z: the stores go from behind -/
theorem av_bind {x : Str} {d : V} (hx : storeOk env x = true) : AV c env n Γ σ (bindName env x) d ((x, d) :: Γ) := by
  refine ⟨fun A own s v Q E ar bd r k => ?_⟩
  exact bindName_ (bd.store rfl r hx fun h' tk' bd' st' => k own h' tk' bd' st')
theorem Rps.rev {w : World} {h : Heap} : ∀ {vs : List Value} {ds : List V}, Rps w h vs ds → Rps w h vs.reverse ds.reverse
  | _, _, .nil => .nil
  | _, _, .cons a r => by rw [List.reverse_cons, List.reverse_cons]; exact r.rev.append (.cons a .nil)
theorem x_assignSw (names : List Str) {elts : List Expr} {k : Nat} {tpos pos : Pos} {e : Expr} (h : EV c env n Γ σ (eval e env) fun d σ₁ => ∃ ds Γ', d = .tup ds ∧ names.length = ds.length ∧ AN c env n σ₁ Γ (names.reverse.map fun n => bindName env n) ds.reverse Γ' ∧ Ψ .next Γ' σ₁)
    (hs : swapsWithSole [.Tuple elts k tpos] e pos.line env = pure false := by rfl) (hw : swappedStores [.Tuple elts k tpos] e env = pure (some names) := by rfl) : XV c env n Γ σ (exec (.Assign [.Tuple elts k tpos] e pos) env) Ψ := by
  refine ⟨fun A own s Q E ar bd kt => ?_⟩
  refine Assign_Tuple_swapped (h.run A own s _ E ar bd fun v d σ₁ own₁ h₁ tk₁ p ow₁ st₁ r₁ => ?_) hs hw
  obtain ⟨ds, Γ', rfl, hn, an, p⟩ := p
  obtain ⟨a, vs, m, rfl, e1, r⟩ := tup_inv r₁
  have hlen := r.length
  have ht : IsTup h₁ a vs.toArray := ⟨_, e1, rfl, _, rfl⟩
  have hz : names.length = vs.toArray.size := by rw [List.size_toArray, hlen, hn]
  rw [hz]
  refine unpackItems_tuple ar.handled (s := { s with heap := h₁, toks := tk₁ }) ht fun h' he => ?_
  have kp : Kp [] h₁ h' := ⟨fun b o e _ => he b o (fun q => not_new ⟨o, e⟩ (new_ge (Nat.le_of_eq q.symm))) e⟩
  have ow' := ow₁.quiet kp
  have st : Stp (adr σ₁) own₁ h₁ (adr σ₁) own₁ h' := .quiet kp
  have bd' := (bd.step st₁ ow₁).step st ow'
  exact an.run ar (s := { s with heap := h', toks := tk₁ }) bd' ((r.mono (ow₁.stp st)).rev) fun own₂ h₂ tk₂ bd₂ st₂ => kt _ .next Γ' σ₁ own₂ h₂ tk₂ p bd₂ (((st₁.trans st bd.ow.old).more).trans st₂ bd.ow.old) .next
end
end Mine
end

section
open PySem PySem.W PyProof.Rows PySem.Calls PySem.Spec
set_option maxRecDepth 100000
namespace Mine
section
variable {c : Cx} {env : Env} {n : Nat} {Γ : Gm} {σ : St} {Φ : V → St → Prop} {Ψ : Fl → Gm → St → Prop}
theorem dput_new {K α : Type} [DecidableEq K] {x : K} {d : α} : ∀ {l : List (K × α)}, x ∉ l.map (·.1) → dput l x d = l ++ [(x, d)]
  | [], _ => rfl
  | (a, e) :: r, h => by
    rw [List.map_cons, List.mem_cons, not_or] at h
    unfold dput
    rw [if_neg fun q => h.1 q.symm, dput_new h.2]; rfl
theorem dmerge_app {K α : Type} [DecidableEq K] : ∀ {l f : List (K × α)}, ((f ++ l).map (·.1)).Nodup → dmerge f l = f ++ l
  | [], f, _ => by simp [dmerge]
  | (x, d) :: l, f, h => by
    have hx : x ∉ f.map (·.1) := by
      rw [List.map_append, List.map_cons, List.nodup_append] at h
      intro q
      exact h.2.2 x q x (.head _) rfl
    show dmerge (dput f x d) l = _
    rw [dput_new hx, dmerge_app (by simpa using h)]
    simp
theorem dmerge_nd {K α : Type} [DecidableEq K] {l : List (K × α)} (h : (l.map (·.1)).Nodup) : dmerge [] l = l := by
  rw [dmerge_app (by simpa using h)]; rfl
theorem dmerge_ks {K α : Type} [DecidableEq K] {l : List (K × α)} (ks : List K) (e : l.map (·.1) = ks) (h : ks.Nodup) : dmerge [] l = l := dmerge_nd (by rw [e]; exact h)
theorem rangeV_0 (m : Nat) : rangeV 0 1 m = (List.range' 0 m).map fun (j : Nat) => V.int j := by
  rw [← List.range_eq_range']
  unfold rangeV
  exact List.map_congr_left fun j _ => by simp
noncomputable def rootE : List (Str × V) := [(Str.ofString "Type", nameV "Catalog"), (Str.ofString "Pages", refV 2 0)]
noncomputable def oneE : List (Str × V) := [(Str.ofString "Type", nameV "Page")]
noncomputable def pgsK (q : Nat) : List (Int × V) := (List.range q).map fun (j : Nat) => ((3 : Int) + (j : Int), V.tup [.int 0, .ds (pageE j)])
noncomputable def tblQ (rt : V) (m q : Nat) : List (Int × V) := (1, .tup [.int 0, rt]) :: (2, .tup [.int 0, .ds (nodeE m)]) :: pgsK q
noncomputable def tblK (rt : V) (m : Nat) : List (Int × V) := tblQ rt m m ++ [(9, .tup [.int 0, .ds oneE])]
theorem tblQ_keys {rt : V} {m q : Nat} {k : Int} (hk : k ∈ (tblQ rt m q).map (·.1)) : 1 ≤ k ∧ k < 3 + q := by
  unfold tblQ pgsK at hk
  rw [List.map_cons, List.map_cons, List.mem_cons, List.mem_cons, List.map_map, List.mem_map] at hk
  rcases hk with rfl | rfl | ⟨j, hj, rfl⟩
  · show 1 ≤ (1 : Int) ∧ _; omega
  · show 1 ≤ (2 : Int) ∧ _; omega
  · have := List.mem_range.mp hj
    show 1 ≤ 3 + (j : Int) ∧ 3 + (j : Int) < 3 + (q : Int); omega
theorem tblQ_next {rt : V} {m q : Nat} : dput (tblQ rt m q) (3 + (q : Int)) (.tup [.int 0, .ds (pageE q)]) = tblQ rt m (q + 1) := by
  rw [dput_new fun h => by have := tblQ_keys h; omega]
  unfold tblQ pgsK
  rw [List.range_succ, List.map_append]; rfl
theorem tblQ_len {rt : V} {m q : Nat} : (tblQ rt m q).length = q + 2 := by simp [tblQ, pgsK]
theorem c_shelf {a : Addr} {x y : Int} (j : Nat) (hc : σ[j]? = some (a, .list [.int x, .int y])) (hy : 0 ≤ y ∧ y < 90000)
    (p : ∀ x' r t (m : Nat), 1 ≤ m → m ≤ 3 → Φ (.tup [shelfV (.cell t) (.ds [(Str.ofString "Root", refV 1 0)]), .int m]) (σ.set j (a, .list [.int x', .int (y + 1)]) ++ [(r, .dict .s rootE), (t, .dict .i (tblK (.cell r) m))])) : FC c (n + 4) (.ref 623) [.cell a] σ Φ := by
  have hj : j < σ.length := (List.getElem?_eq_some_iff.mp hc).1
  refine' fc_def ?ho ?hcd [Str.ofString "pen"] ?hb ?hl ?hx ?hkd ?hnd ?_ ?h1 ?h2 ?h3
  case ho => k_is
  case hcd => k_is
  case hl => rfl
  case hx => decide +kernel
  case hkd => kernel_rfl!
  case hnd => decide +kernel
  case h1 => rfl
  case h2 => rfl
  case h3 => rfl
  case hb =>
    intro s vs X hv
    obtain ⟨u0, rfl⟩ := len1 hv
    first | exact BindsTo.of_eq rfl | exact kp_binds (K := HpK c.w.params) X (fun S => by kernel_rfl!)
  intro L
  refine xs_cons (x_assign (ev_binop (ev_int (ev_call (by k_is) (by kernel_rfl!) (by k_is) ?_))) (by kernel_rfl!))
  refine lv_cons (ev_var rfl (lv_cons (ev_int (lv_nil (FC.cv (c_draw j hc (by omega) (by omega) (by omega) fun d x' h1 h2 => p2_add ?_))))))
  obtain ⟨m, hm, hm1, hm3⟩ : ∃ m : Nat, (1 : Int) + d = m ∧ 1 ≤ m ∧ m ≤ 3 := ⟨(1 + d).toNat, by omega, by omega, by omega⟩
  rw [hm]
  refine xs_cons ?_
  refine' x_assign ?_ ?h1 ?h2
  case h1 => kernel_rfl!
  case h2 => kernel_rfl!
  refine' ev_dictC .i ?_ ?a1 ?a2 ?a3 ?a4
  case a1 => rfl
  case a2 => rfl
  case a3 => nofun
  case a4 => decide
  refine pv_cons ?_
  refine ev_int ?_
  refine ⟨_, rfl, ?_⟩
  refine ev_tup ?_
  refine' lv_cons ?_ ?h1
  case h1 => rfl
  refine ev_int ?_
  refine' lv_cons ?_ ?h1
  case h1 => rfl
  refine' ev_dictC .s ?_ ?a1 ?a2 ?a3 ?a4
  case a1 => rfl
  case a2 => rfl
  case a3 => nofun
  case a4 => decide
  refine pv_cons (ev_str ⟨_, rfl, ev_call (by k_is) (by kernel_rfl!) (by k_is) (lv_cons (ev_str (lv_nil (FC.cv (c_Name ?_)))))⟩)
  refine pv_cons (ev_str ⟨_, rfl, ev_call (by k_is) (by kernel_rfl!) (by k_is) (lv_cons (ev_int (lv_cons (ev_int (lv_nil (FC.cv (c_Ref ?_)))))))⟩)
  refine pv_nil fun r => lv_nil ⟨?_, pv_nil fun t => ?_⟩
  · rw [sizeLine_eq]; simp
  rw [dmerge_nd (by decide +kernel), dmerge_ks [1] rfl (by decide), List.append_assoc]
  generalize hσ : σ.set j (a, MO.list [.int x', .int (y + 1)]) = σ₁
  change XV _ _ _ _ (σ₁ ++ [(r, .dict .s rootE), (t, .dict .i [(1, .tup [.int 0, .cell r])])]) _ _
  refine xs_cons (x_assignComp (cl := []) (by kernel_rfl!) rfl (by decide) rfl (by decide) (by decide) (fun p hp => nomatch hp) (by simp) [] trivial rfl (by kernel_rfl!) ?_)
  refine ie_range1 (by k_is) rfl (by kernel_rfl!) (ev_var rfl ⟨m, rfl, by omega, ?_⟩)
  refine ⟨fun rem acc σ' => σ' = σ₁ ++ [(r, .dict .s rootE), (t, .dict .i [(1, .tup [.int 0, .cell r])])] ∧ ∃ q, q ≤ m ∧ rem = (List.range' q (m - q)).map (fun (j : Nat) => V.int j) ∧ acc = kidsV q, ⟨rfl, 0, by omega, rangeV_0 m, rfl⟩, ⟨fun rem acc σ' q => ?_, fun d r acc σ' C q => ?_⟩, fun acc σ' q => ?_⟩
  · obtain ⟨_, q, h1, _, h2⟩ := q
    rw [h2]; simp [kidsV]; omega
  · obtain ⟨rfl, q, hq, q1, rfl⟩ := q
    have hqm : q < m := by
      cases Nat.lt_or_ge q m with
      | inl h => exact h
      | inr h => rw [Nat.sub_eq_zero_of_le h] at q1; cases q1
    have e : m - q = (m - (q + 1)) + 1 := by omega
    rw [e, List.range'_succ, List.map_cons] at q1
    injection q1 with q1 q2
    subst q1 q2
    refine tl_nil ?_
    rw [if_pos rfl]
    refine ev_call (by k_is) (by kernel_rfl!) (by k_is) (lv_cons (ev_binop (ev_int (ev_var rfl (p2_add ?_)))))
    refine lv_cons (ev_int (lv_nil (FC.cv (c_Ref ⟨rfl, q + 1, by omega, rfl, ?_⟩))))
    unfold kidsV
    rw [List.range_succ, List.map_append]; rfl
  obtain ⟨rfl, q, hq, q1, rfl⟩ := q
  have hqm : q = m := by
    have := congrArg List.length q1
    simp at this; omega
  subst hqm
  obtain ⟨s0, s1⟩ := at2 σ₁ (r, MO.dict .s rootE) (t, MO.dict .i [(1, .tup [.int 0, .cell r])])
  refine xs_cons ?_
  refine' x_setitem ?_ ?h1
  case h1 => kernel_rfl!
  refine ev_tup ?_
  refine' lv_cons ?_ ?h1
  case h1 => rfl
  refine ev_int ?_
  refine' lv_cons ?_ ?h1
  case h1 => rfl
  refine' ev_dict .s ?_ ?a1 ?a2 ?a3 ?a4
  case a1 => rfl
  case a2 => rfl
  case a3 => nofun
  case a4 => decide
  refine pv_cons (ev_str ⟨_, rfl, ev_call (by k_is) (by kernel_rfl!) (by k_is) (lv_cons (ev_str (lv_nil (FC.cv (c_Name ?_)))))⟩)
  refine pv_cons (ev_str ⟨_, rfl, ev_var rfl (pv_cons (ev_str ⟨_, rfl, ev_var rfl (pv_nil ?_)⟩))⟩)
  rw [dmerge_ks [Str.ofString "Type", Str.ofString "Kids", Str.ofString "Count"] rfl (by decide +kernel)]
  refine lv_nil ⟨?_, ev_var rfl (ev_int (s3_dict .i _ s1 rfl (by simp) ?_))⟩
  · rw [sizeLine_eq]; simp
  rw [(set2 _ _ _ _).2]
  change XV _ _ _ _ (σ₁ ++ [(r, .dict .s rootE), (t, .dict .i (tblQ (.cell r) q 0))]) _ _
  refine xs_cons (x_for (ie_range1 (by k_is) rfl (by kernel_rfl!) (ev_var rfl ⟨q, rfl, by omega, ?_⟩)))
  refine ⟨fun rem Γ' σ' => Γ'.lookup (Str.ofString "table") = some (.cell t) ∧ Γ'.lookup (Str.ofString "count") = some (.int q) ∧ ∃ k, k ≤ q ∧ rem = (List.range' k (q - k)).map (fun (j : Nat) => V.int j) ∧ σ' = σ₁ ++ [(r, .dict .s rootE), (t, .dict .i (tblQ (.cell r) q k))], ⟨rfl, rfl, 0, by omega, rangeV_0 q, rfl⟩, fun d rr Γ' σ' z => ?_, fun Γ' σ' z => ?_⟩
  · obtain ⟨g1, g2, k, hk, q1, rfl⟩ := z
    have hkm : k < q := by
      cases Nat.lt_or_ge k q with
      | inl h => exact h
      | inr h => rw [Nat.sub_eq_zero_of_le h] at q1; cases q1
    have e : q - k = (q - (k + 1)) + 1 := by omega
    rw [e, List.range'_succ, List.map_cons] at q1
    injection q1 with q1 q2
    subst q1 q2
    obtain ⟨s0, s1⟩ := at2 σ₁ (r, MO.dict .s rootE) (t, MO.dict .i (tblQ (.cell r) q k))
    refine ⟨_, av_name (by kernel_rfl!), ?_⟩
    refine xs_cons ?_
    refine' x_setitem ?_ ?h1
    case h1 => kernel_rfl!
    refine ev_tup ?_
    refine' lv_cons ?_ ?h1
    case h1 => rfl
    refine ev_int ?_
    refine' lv_cons ?_ ?h1
    case h1 => rfl
    refine' ev_dict .s ?_ ?a1 ?a2 ?a3 ?a4
    case a1 => rfl
    case a2 => rfl
    case a3 => nofun
    case a4 => decide
    refine pv_cons (ev_str ⟨_, rfl, ev_call (by k_is) (by kernel_rfl!) (by k_is) (lv_cons (ev_str (lv_nil (FC.cv (c_Name ?_)))))⟩)
    refine pv_cons (ev_str ⟨_, rfl, ev_call (by k_is) (by kernel_rfl!) (by k_is) (lv_cons (ev_int (lv_cons (ev_int (lv_nil (FC.cv (c_Ref ?_)))))))⟩)
    refine pv_cons (ev_str ⟨_, rfl, ev_var rfl (pv_nil ?_)⟩)
    rw [dmerge_ks [Str.ofString "Type", Str.ofString "Parent", Str.ofString "Mark"] rfl (by decide +kernel)]
    refine lv_nil ⟨?_, ev_var g1 (ev_binop (ev_int (ev_var rfl (p2_add (s3_dict .i _ s1 rfl ?_ ?_)))))⟩
    · rw [sizeLine_eq]; simp
    · rw [tblQ_len]; omega
    rw [(set2 _ _ _ _).2]
    refine xs_nil ⟨g1, g2, k + 1, by omega, rfl, ?_⟩
    rw [← tblQ_next]; rfl
  obtain ⟨g1, g2, k, hk, q1, rfl⟩ := z
  have hkm : k = q := by
    have := congrArg List.length q1
    simp at this; omega
  subst hkm
  obtain ⟨s0, s1⟩ := at2 σ₁ (r, MO.dict .s rootE) (t, MO.dict .i (tblQ (.cell r) k k))
  refine xs_cons ?_
  refine' x_setitem ?_ ?h1
  case h1 => kernel_rfl!
  refine ev_tup ?_
  refine' lv_cons ?_ ?h1
  case h1 => rfl
  refine ev_int ?_
  refine' lv_cons ?_ ?h1
  case h1 => rfl
  refine' ev_dict .s ?_ ?a1 ?a2 ?a3 ?a4
  case a1 => rfl
  case a2 => rfl
  case a3 => nofun
  case a4 => decide
  refine pv_cons (ev_str ⟨_, rfl, ev_call (by k_is) (by kernel_rfl!) (by k_is) (lv_cons (ev_str (lv_nil (FC.cv (c_Name (pv_nil ?_))))))⟩)
  rw [dmerge_ks [Str.ofString "Type"] rfl (by decide +kernel)]
  refine lv_nil ⟨?_, ev_var g1 (ev_int (s3_dict .i _ s1 rfl ?_ ?_))⟩
  · rw [sizeLine_eq]; simp
  · rw [tblQ_len]; omega
  rw [(set2 _ _ _ _).2, dput_new fun h => by have := tblQ_keys h; omega]
  subst hσ
  refine xs_cons (x_ret (ev_tup ?_))
  refine' lv_cons ?_ ?h1
  case h1 => rfl
  refine ev_call (by k_is) (by kernel_rfl!) (by k_is) ?_
  refine' lv_cons ?_ ?h1
  case h1 => rfl
  refine ev_var g1 ?_
  refine' lv_cons ?_ ?h1
  case h1 => rfl
  refine' ev_dict .s ?_ ?a1 ?a2 ?a3 ?a4
  case a1 => rfl
  case a2 => rfl
  case a3 => nofun
  case a4 => decide
  refine pv_cons (ev_str ⟨_, rfl, ev_call (by k_is) (by kernel_rfl!) (by k_is) (lv_cons (ev_int (lv_cons (ev_int (lv_nil (FC.cv (c_Ref (pv_nil ?_))))))))⟩)
  rw [dmerge_ks [Str.ofString "Root"] rfl (by decide +kernel)]
  refine lv_nil (FC.cv (c_Shelf rfl rfl (lv_cons (ev_var g2 (lv_nil ⟨?_, (ret_ok (p x' r t k hm1 hm3))⟩)))))
  rw [sizeLine_eq]; simp
end
end Mine
end

section
open PySem PySem.W PyProof.Rows PySem.Calls PySem.Spec
set_option maxRecDepth 100000
namespace Mine
section
variable {c : Cx} {env : Env} {n : Nat} {Γ : Gm} {σ : St} {Φ : V → St → Prop} {Ψ : Fl → Gm → St → Prop}
/-- the pages that a row may name -/
inductive RPg : V → Prop
  | ref (i g : Int) : RPg (refV i g)
  | int (i : Int) : -1 ≤ i → RPg (.int i)
  | name (t : Str) : RPg (nameV t)
theorem RPg.pgV {d : V} (h : RPg d) : PgV d := by
  cases h
  · exact .ref _ _
  · exact .int _
  · exact .name _
theorem RPg.tree {m : Nat} {d : V} (h : RPg d) : Tree m d := by
  cases h
  · exact .ref _ _
  · exact .int _
  · exact .name _
inductive Row : List V → Prop
  | one {pg : V} : RPg pg → Row [pg]
  | more {pg : V} {vw : Str} {nums : List V} : RPg pg → (∀ d ∈ nums, Num d) → nums.length ≤ 5 → Row (pg :: nameV vw :: nums)
noncomputable def pageL (d e : Int) : List V := [refV (3 + d) 0, refV 9 0, .int e, .int (-1), nameV "P", refV 3 1]
theorem page_at {d e i : Int} (he : 0 ≤ e) (h0 : 0 ≤ i) (h5 : i < 6) : ∃ v, (pageL d e)[i.toNat]? = some v ∧ RPg v := by
  have : i = 0 ∨ i = 1 ∨ i = 2 ∨ i = 3 ∨ i = 4 ∨ i = 5 := by omega
  rcases this with rfl | rfl | rfl | rfl | rfl | rfl
  · exact ⟨_, rfl, .ref _ _⟩
  · exact ⟨_, rfl, .ref _ _⟩
  · exact ⟨_, rfl, .int _ (by omega)⟩
  · exact ⟨_, rfl, .int _ (by omega)⟩
  · exact ⟨_, rfl, .name _⟩
  · exact ⟨_, rfl, .ref _ _⟩
noncomputable def viewL : List V := [.str "XYZ", .str "Fit", .str "FitH", .str "FitV", .str "FitR", .str "FitB", .str "FitBH", .str "FitBV", .str "Odd"]
theorem view_at {i : Int} (h0 : 0 ≤ i) (h5 : i < 9) : ∃ s : Str, viewL[i.toNat]? = some (.str s) := by
  have : i = 0 ∨ i = 1 ∨ i = 2 ∨ i = 3 ∨ i = 4 ∨ i = 5 ∨ i = 6 ∨ i = 7 ∨ i = 8 := by omega
  rcases this with rfl | rfl | rfl | rfl | rfl | rfl | rfl | rfl | rfl <;> exact ⟨_, rfl⟩
theorem c_row {a : Addr} {x y : Int} (j : Nat) (hc : σ[j]? = some (a, .list [.int x, .int y])) (hy : 0 ≤ y ∧ y < 80000)
    (p : ∀ ds x' y', Row ds → y ≤ y' → y' ≤ y + 20 → Φ (.list ds) (σ.set j (a, .list [.int x', .int y']))) : FC c (n + 5) (.ref 635) [.cell a] σ Φ := by
  have hj : j < σ.length := (List.getElem?_eq_some_iff.mp hc).1
  have hss : ∀ (u v : MO), (σ.set j (a, u)).set j (a, v) = σ.set j (a, v) := fun u v => by simp
  refine' fc_def ?ho ?hcd [Str.ofString "pen"] ?hb ?hl ?hx ?hkd ?hnd ?_ ?h1 ?h2 ?h3
  case ho => k_is
  case hcd => k_is
  case hl => rfl
  case hx => decide +kernel
  case hkd => kernel_rfl!
  case hnd => decide +kernel
  case h1 => rfl
  case h2 => rfl
  case h3 => rfl
  case hb =>
    intro s vs X hv
    obtain ⟨u0, rfl⟩ := len1 hv
    first | exact BindsTo.of_eq rfl | exact kp_binds (K := HpK c.w.params) X (fun S => by kernel_rfl!)
  intro L
  refine xs_cons (x_assign (ev_sub (ev_list ?_)) (by kernel_rfl!))
  refine lv_cons (ev_call (by k_is) (by kernel_rfl!) (by k_is) (lv_cons ?_))
  refine ev_binop (ev_int ?_)
  refine ev_call (by k_is) (by kernel_rfl!) (by k_is) ?_
  refine lv_cons (ev_var rfl (lv_cons (ev_int (lv_nil (FC.cv (c_draw j (hc) (by omega) (by omega) (by omega) fun d1 x1 a1 b1 => ?_))))))
  refine p2_add (lv_cons (ev_int (lv_nil (FC.cv (c_Ref ?_)))))
  refine lv_cons (ev_call (by k_is) (by kernel_rfl!) (by k_is) (lv_cons (ev_int (lv_cons (ev_int (lv_nil (FC.cv (c_Ref ?_))))))))
  refine lv_cons ?_
  refine ev_call (by k_is) (by kernel_rfl!) (by k_is) ?_
  refine lv_cons (ev_var rfl (lv_cons (ev_int (lv_nil (FC.cv (c_draw j (set_at hj) (by omega) (by omega) (by omega) fun d2 x2 a2 b2 => ?_))))))
  rw [hss]
  refine lv_cons (ev_unop (ev_int (p1_neg ?_)))
  refine lv_cons (ev_call (by k_is) (by kernel_rfl!) (by k_is) (lv_cons (ev_str (lv_nil (FC.cv (c_Name ?_))))))
  refine lv_cons (ev_call (by k_is) (by kernel_rfl!) (by k_is) (lv_cons (ev_int (lv_cons (ev_int (lv_nil (FC.cv (c_Ref ?_))))))))
  refine lv_nil ⟨?_, ?_⟩
  · rw [sizeLine_eq]; simp
  refine EV.mono (Φ := fun d σ' => ∃ (i x3 y3 : Int), d = .int i ∧ 0 ≤ i ∧ i < 6 ∧ y + 3 ≤ y3 ∧ y3 ≤ y + 4 ∧ σ' = σ.set j (a, .list [.int x3, .int y3])) ?_ ?_
  · refine ev_ifexp (tv_cmp ?_)
    refine ev_call (by k_is) (by kernel_rfl!) (by k_is) ?_
    refine lv_cons (ev_var rfl (lv_cons (ev_int (lv_nil (FC.cv (c_draw j (set_at hj) (by omega) (by omega) (by omega) fun d3 x3 a3 b3 => ?_))))))
    rw [hss]
    refine ev_int (p2_eqi ⟨_, rfl, ?_⟩)
    cases d3 == 0 with
    | true =>
      rw [if_pos rfl]
      refine ev_call (by k_is) (by kernel_rfl!) (by k_is) ?_
      refine lv_cons (ev_var rfl (lv_cons (ev_int (lv_nil (FC.cv (c_draw j (set_at hj) (by omega) (by omega) (by omega) fun d4 x4 a4 b4 => ?_))))))
      rw [hss]
      exact ⟨d4, x4, _, rfl, a4, b4, by omega, by omega, rfl⟩
    | false =>
      rw [if_neg Bool.false_ne_true]
      exact ev_int ⟨0, x3, _, rfl, by omega, by omega, by omega, by omega, rfl⟩
  rintro d σ' ⟨i, x3, y3, rfl, hi0, hi6, hy3, hy4, rfl⟩
  obtain ⟨pg, hpg, hP⟩ := page_at (d := d1) (e := d2) a2 hi0 hi6
  refine p2_litem (ds := pageL d1 d2) IsLs.fr hi0 (by omega) hpg ?_
  refine xs_cons (x_assign (ev_sub (ev_tup ?_)) (by kernel_rfl!))
  refine lv_cons (ev_str (lv_cons (ev_str (lv_cons (ev_str (lv_cons (ev_str (lv_cons (ev_str ?_)))))))))
  refine lv_cons (ev_str (lv_cons (ev_str (lv_cons (ev_str (lv_cons (ev_str (lv_nil ⟨?_, ?_⟩))))))))
  · rw [sizeLine_eq]; simp
  refine ev_call (by k_is) (by kernel_rfl!) (by k_is) ?_
  refine lv_cons (ev_var rfl (lv_cons (ev_int (lv_nil (FC.cv (c_draw j (set_at hj) (by omega) (by omega) (by omega) fun d5 x5 a5 b5 => ?_))))))
  rw [hss]
  obtain ⟨vw, hvw⟩ := view_at a5 b5
  refine p2_titem (ds := viewL) a5 (by omega) hvw ?_
  refine xs_cons (x_assign (ev_binop (ev_list ?_)) (by kernel_rfl!))
  refine lv_cons (ev_var rfl (lv_cons (ev_call (by k_is) (by kernel_rfl!) (by k_is) (lv_cons (ev_var rfl (lv_nil (FC.cv (c_Name ?_))))))))
  refine lv_nil ⟨?_, ?_⟩
  · rw [sizeLine_eq]; simp
  refine' ev_comp (cl := ?cl) ?hclos ?hce rfl ?hnm ?hx ?hcl ?hcn [(Str.ofString "pen", .cell a)] ?hcap rfl ?_
  case hclos => exact rfl
  case hce => decide
  case hnm => decide
  case hx => decide
  case hcn => show List.Nodup [Str.ofString "pen"]; decide +kernel
  case hcl =>
    intro p hp
    simp only [List.mem_cons, List.mem_nil_iff, or_false] at hp
    subst hp
    rfl
  case hcap => exact ⟨⟨rfl, by kernel_rfl!, _, rfl, rfl⟩, trivial⟩
  refine ie_range1 (by k_is) rfl (by kernel_rfl!) ?_
  refine ev_call (by k_is) (by kernel_rfl!) (by k_is) ?_
  refine lv_cons (ev_var rfl (lv_cons (ev_int (lv_nil (FC.cv (c_draw j (set_at hj) (by omega) (by omega) (by omega) fun d6 x6 a6 b6 => ?_))))))
  rw [hss]
  obtain ⟨k, rfl⟩ : ∃ k : Nat, d6 = k := ⟨d6.toNat, by omega⟩
  refine ⟨k, rfl, by omega, ?_⟩
  refine ⟨fun rem acc σ' => acc.length + rem.length ≤ 5 ∧ (∀ d ∈ acc, Num d) ∧ ∃ (x7 y7 : Int), y ≤ y7 ∧ y7 + 2 * rem.length ≤ y + 16 ∧ σ' = σ.set j (a, .list [.int x7, .int y7]), ⟨by simp [rangeV]; omega, (fun d hd => nomatch hd), x6, _, by omega, by simp [rangeV]; omega, rfl⟩, ⟨fun rem acc σ' q => by omega, fun d r acc σ' C q => ?_⟩, fun acc σ' q => ?_⟩
  · obtain ⟨q1, q2, x7, y7, q3, q4, rfl⟩ := q
    rw [List.length_cons] at q1 q4
    refine tl_nil ?_
    rw [if_pos rfl]
    refine ev_call (by k_is) (by kernel_rfl!) (by k_is) (lv_cons (ev_var rfl (lv_nil (FC.cv (c_number j (set_at hj) (by omega) fun v x8 y8 hv h1 h2 => ?_)))))
    rw [hss]
    refine ⟨by simp; omega, fun d hd => ?_, x8, y8, by omega, by omega, rfl⟩
    rcases List.mem_append.mp hd with hd | hd
    · exact q2 d hd
    · rw [List.mem_singleton.mp hd]; exact hv
  · obtain ⟨q1, q2, x7, y7, q3, q4, rfl⟩ := q
    simp only [List.length_nil] at q1 q4
    refine p2_addL IsLs.fr IsLs.fr (by simp) (by omega) ?_
    refine xs_cons (x_ret (ev_ifexp (tv_cmp ?_)))
    refine ev_call (by k_is) (by kernel_rfl!) (by k_is) ?_
    refine lv_cons (ev_var rfl (lv_cons (ev_int (lv_nil (FC.cv (c_draw j (set_at hj) (by omega) (by omega) (by omega) fun d9 x9 a9 b9 => ?_))))))
    rw [hss]
    refine ev_int (p2_eqi ⟨_, rfl, ?_⟩)
    cases d9 == 0 with
    | true => exact ev_upto (k := 1) (ev_var rfl ⟨_, IsLs.fr, by rw [sizeLine_eq]; simp; omega, (ret_ok (p _ _ _ (.one hP) (by omega) (by omega)))⟩)
    | false => exact ev_var rfl (ret_ok (p _ _ _ (.more (vw := vw) hP q2 q1) (by omega) (by omega)))
end
end Mine
end

section
open PySem PySem.W PyProof.Rows PySem.Calls PySem.Spec
set_option maxRecDepth 100000
namespace Mine
section
variable {c : Cx} {env : Env} {n : Nat} {Γ : Gm} {σ : St} {Φ : V → St → Prop} {Ψ : Fl → Gm → St → Prop}
open Classical in
/-- what told answers for a leaf -/
noncomputable def toldF (d : V) : V := if h : ∃ r, ToldIs 0 d r then h.choose else .none
theorem toldF_is {d : V} (h : Tree 0 d) : ToldIs 0 d (toldF d) := by
  have e := told_ex h
  unfold toldF
  rw [dif_pos e]
  exact e.choose_spec
noncomputable def heardR : V → V
  | .inst _ [(_, pg), (_, vw), (_, .list nums)] => .tup [toldF pg, vw, .list (nums.map toldF)]
  | _ => .none
/-- what target_of answers for a row -/
noncomputable def targetD : List V → V
  | pg :: .inst _ [(_, .str vw)] :: nums => targetR pg vw nums
  | _ => .none
theorem c_heard0 (p : Φ .none σ) : FC c (n + 1) (.ref 645) [V.none] σ Φ := by
  refine' fc_def ?ho ?hcd [Str.ofString "target"] ?hb ?hl ?hx ?hkd ?hnd ?_ ?h1 ?h2 ?h3
  case ho => k_is
  case hcd => k_is
  case hl => rfl
  case hx => decide +kernel
  case hkd => kernel_rfl!
  case hnd => decide +kernel
  case h1 => rfl
  case h2 => rfl
  case h3 => rfl
  case hb =>
    intro s vs X hv
    obtain ⟨u0, rfl⟩ := len1 hv
    first | exact BindsTo.of_eq rfl | exact kp_binds (K := HpK c.w.params) X (fun S => by kernel_rfl!)
  intro L
  refine xs_cons (x_ret (ev_ifexp (tv_cmp (ev_var rfl (ev_none (p2_is rfl ⟨_, rfl, ?_⟩))))))
  exact ev_none (ret_ok p)
theorem c_heard1 {pg : V} {vw : Str} {nums : List V} (hp : Tree 0 pg) (hn : ∀ d ∈ nums, Tree 0 d) (hz : nums.length ≤ 100) (p : Φ (.tup [toldF pg, .str vw, .list (nums.map toldF)]) σ) : FC c (n + 3) (.ref 645) [targetV pg (.str vw) (.list nums)] σ Φ := by
  refine' fc_def ?ho ?hcd [Str.ofString "target"] ?hb ?hl ?hx ?hkd ?hnd ?_ ?h1 ?h2 ?h3
  case ho => k_is
  case hcd => k_is
  case hl => rfl
  case hx => decide +kernel
  case hkd => kernel_rfl!
  case hnd => decide +kernel
  case h1 => rfl
  case h2 => rfl
  case h3 => rfl
  case hb =>
    intro s vs X hv
    obtain ⟨u0, rfl⟩ := len1 hv
    first | exact BindsTo.of_eq rfl | exact kp_binds (K := HpK c.w.params) X (fun S => by kernel_rfl!)
  intro L
  refine xs_cons (x_ret (ev_ifexp (tv_cmp (ev_var rfl (ev_none (p2_is rfl ⟨_, rfl, ?_⟩))))))
  rw [if_neg Bool.false_ne_true]
  refine ev_tup (lv_cons (ev_call (by k_is) (by kernel_rfl!) (by k_is) (lv_cons (ev_va rfl rfl (by k_is) (by k_is) (by k_is) (by k_is) (lv_nil (FC.cv ((toldF_is hp).2.2 ?_)))))))
  refine lv_cons (ev_va rfl rfl (by k_is) (by k_is) (by k_is) (by k_is) (lv_cons (ev_comp (cl := []) rfl (by decide) rfl (by decide) (by decide) (fun p hp => nomatch hp) (by simp) [] trivial rfl ?_)))
  refine ie_of (ev_va rfl rfl (by k_is) (by k_is) (by k_is) (by k_is) ⟨nums, iv_list, fun rem acc σ' => σ' = σ ∧ acc ++ rem.map toldF = nums.map toldF ∧ ∀ d ∈ rem, d ∈ nums, ⟨rfl, rfl, fun d hd => hd⟩, ⟨fun rem acc σ' q => ?_, fun d r acc σ' C q => ?_⟩, fun acc σ' q => ?_⟩)
  · have := congrArg List.length q.2.1
    simp at this; omega
  · obtain ⟨rfl, q1, q2⟩ := q
    refine tl_nil ?_
    rw [if_pos rfl]
    refine ev_call (by k_is) (by kernel_rfl!) (by k_is) (lv_cons (ev_var rfl (lv_nil (FC.cv ((toldF_is (hn d (q2 d (.head _)))).2.2 ⟨rfl, ?_, fun x hx => q2 x (.tail _ hx)⟩)))))
    rw [← q1]; simp
  · obtain ⟨rfl, q1, q2⟩ := q
    have q1 : acc = nums.map toldF := by simpa using q1
    subst q1
    refine lv_nil ⟨?_, (ret_ok p)⟩
    rw [sizeLine_eq]; simp
theorem targetR_or (pg : V) (vw : Str) (nums : List V) : targetR pg vw nums = .none ∨ ∃ k : Nat, k ≤ 4 ∧ pgBad pg = false ∧ (nums.any fun d => !numOk d) = false ∧ ¬ k < nums.length ∧ targetR pg vw nums = targetV pg (.str vw) (.list (nums ++ List.replicate (k - nums.length) .none)) := by
  unfold targetR
  rcases viewN_dl (vw := vw) with ⟨h1, h2⟩ | ⟨k, hk, h1, h2⟩
  · rw [h2]; exact .inl rfl
  · rw [h2]
    dsimp only
    split
    · exact .inl rfl
    split
    · exact .inl rfl
    split
    · exact .inl rfl
    · rename_i q1 q2 q3
      exact .inr ⟨k, hk, by simpa using q3, by simpa using q2, q1, rfl⟩
theorem pad_tree {m : Nat} {nums : List V} {k : Nat} (hn : ∀ d ∈ nums, Num d) : ∀ d ∈ nums ++ List.replicate k V.none, Tree m d := fun d hd => by
  rcases List.mem_append.mp hd with hd | hd
  · exact (hn d hd).tree
  · rw [List.eq_of_mem_replicate hd]; exact .none
theorem c_heard {ds : List V} (hr : Row ds) (p : Φ (heardR (targetD ds)) σ) : FC c (n + 3) (.ref 645) [targetD ds] σ Φ := by
  cases hr with
  | one hp => exact (c_heard0 (n := n) (c := c) p).le (by omega)
  | @more pg vw nums hp hn hz =>
    change FC c _ _ [targetR pg vw nums] _ _
    have p : Φ (heardR (targetR pg vw nums)) σ := p
    rcases targetR_or pg vw nums with e | ⟨k, hk, h1, h2, h3, e⟩
    · rw [e] at p ⊢
      exact (c_heard0 (n := n) (c := c) p).le (by omega)
    · rw [e] at p ⊢
      exact c_heard1 hp.tree (pad_tree hn) (by simp; omega) p
theorem c_due {ds : List V} (hr : Row ds) (p : Φ (heardR (targetD ds)) σ) : FC c (n + 3) (.ref 640) [.list ds] σ Φ := by
  cases hr with
  | @one pg hp =>
    have p : Φ .none σ := p
    refine' fc_def ?ho ?hcd [Str.ofString "row"] ?hb ?hl ?hx ?hkd ?hnd ?_ ?h1 ?h2 ?h3
    case ho => k_is
    case hcd => k_is
    case hl => rfl
    case hx => decide +kernel
    case hkd => kernel_rfl!
    case hnd => decide +kernel
    case h1 => rfl
    case h2 => rfl
    case h3 => rfl
    case hb =>
      intro s vs X hv
      obtain ⟨u0, rfl⟩ := len1 hv
      first | exact BindsTo.of_eq rfl | exact kp_binds (K := HpK c.w.params) X (fun S => by kernel_rfl!)
    intro L
    refine xs_cons (x_if (tv_or (tv_not (tv_plain (tv_isiB (whole := pure .none) (by k_is) (by kernel_rfl!) (by k_is) rfl (by kernel_rfl!) rfl trivial (b := true) ?_ ?_)))))
    · dsimp only [typ]; kit_is
    refine tv_or (tv_cmp (ev_callB (by k_is) rfl (by kernel_rfl!) (lv_cons (ev_var rfl (lv_nil (cv_lenL IsLs.fr (by simp) (ev_int (p2_lt ⟨_, rfl, ?_⟩))))))))
    exact xs_cons (x_ret (ev_none (ret_ok p)))
  | @more pg vw nums hp hn hz =>
    have p : Φ (heardR (targetR pg vw nums)) σ := p
    refine' fc_def ?ho ?hcd [Str.ofString "row"] ?hb ?hl ?hx ?hkd ?hnd ?_ ?h1 ?h2 ?h3
    case ho => k_is
    case hcd => k_is
    case hl => rfl
    case hx => decide +kernel
    case hkd => kernel_rfl!
    case hnd => decide +kernel
    case h1 => rfl
    case h2 => rfl
    case h3 => rfl
    case hb =>
      intro s vs X hv
      obtain ⟨u0, rfl⟩ := len1 hv
      first | exact BindsTo.of_eq rfl | exact kp_binds (K := HpK c.w.params) X (fun S => by kernel_rfl!)
    intro L
    refine xs_cons (x_if (tv_or (tv_not (tv_plain (tv_isiB (whole := pure .none) (by k_is) (by kernel_rfl!) (by k_is) rfl (by kernel_rfl!) rfl trivial (b := true) ?_ ?_)))))
    · dsimp only [typ]; kit_is
    refine tv_or (tv_cmp (ev_callB (by k_is) rfl (by kernel_rfl!) (lv_cons (ev_var rfl (lv_nil (cv_lenL IsLs.fr (by simp; omega) (ev_int (p2_lt ⟨_, rfl, ?_⟩))))))))
    have hl2 : decide (((pg :: nameV vw :: nums).length : Int) < 2) = false := by simp; omega
    rw [hl2, if_neg Bool.false_ne_true]
    refine tv_or_nil ?_
    refine xs_nil ?_
    refine xs_cons (x_assignSw [Str.ofString "page", Str.ofString "view", Str.ofString "numbers"] (ev_tup (lv_cons (ev_sub (ev_var rfl (ev_int (p2_litem (e := pg) IsLs.fr (by omega) (by omega) rfl ?_)))))))
    refine lv_cons (ev_attr (ev_sub (ev_var rfl (ev_int (p2_litem (e := nameV vw) IsLs.fr (by omega) (by omega) rfl (p1_attr rfl (by k_is) (by k_is) (by k_is) (by k_is) ?_))))))
    refine lv_cons (ev_from (k := 2) (ev_var rfl ⟨_, IsLs.fr, by rw [sizeLine_eq]; simp; omega, lv_nil ⟨?_, ?_⟩⟩))
    · rw [sizeLine_eq]; simp
    refine ⟨_, _, rfl, rfl, .cons (av_bind (by kernel_rfl!)) (.cons (av_bind (by kernel_rfl!)) (.cons (av_bind (by kernel_rfl!)) .nil)), ?_⟩
    change XV _ _ _ ((_, pg) :: (_, V.str vw) :: (_, V.list nums) :: _) _ _ _
    refine xs_cons (x_assign (ev_methB (ev_dict .s ?_)) (by kernel_rfl!))
    refine pv_cons (ev_str ⟨_, rfl, ev_int (pv_cons (ev_str ⟨_, rfl, ev_int (pv_cons (ev_str ⟨_, rfl, ev_int (pv_cons (ev_str ⟨_, rfl, ev_int ?_⟩))⟩))⟩))⟩)
    refine pv_cons (ev_str ⟨_, rfl, ev_int (pv_cons (ev_str ⟨_, rfl, ev_int (pv_cons (ev_str ⟨_, rfl, ev_int (pv_cons (ev_str ⟨_, rfl, ev_int (pv_nil ?_)⟩))⟩))⟩))⟩)
    rw [dmerge_nd (by decide +kernel)]
    refine ⟨_, mok_get .s IsD.frS, lv_cons (ev_var rfl (lv_cons (ev_unop (ev_int (p1_neg (lv_nil (cv_getD .s (x := vw) (ds := viewE) IsD.frS rfl ?_)))))))⟩
    refine xs_cons (x_if (tv_or (tv_cmp (ev_callB (by k_is) rfl (by kernel_rfl!) (lv_cons (ev_var rfl (lv_nil (cv_lenL IsLs.fr (by omega) (ev_var rfl ?_)))))))))
    rcases viewN_dl (vw := vw) with ⟨h1, h2⟩ | ⟨k, hk, h1, h2⟩
    · rw [h1, Option.getD_none]
      have e : targetR pg vw nums = .none := by unfold targetR; rw [h2]
      rw [e] at p
      refine p2_gt ⟨_, rfl, ?_⟩
      rw [decide_eq_true (show (-1 : Int) < (nums.length : Int) by omega)]
      exact xs_cons (x_ret (ev_none (ret_ok p)))
    rw [h1, Option.getD_some]
    refine p2_gt ⟨_, rfl, ?_⟩
    unfold targetR at p
    rw [h2] at p
    dsimp only at p
    by_cases hlt : k < nums.length
    · rw [if_pos hlt] at p
      rw [decide_eq_true (show (k : Int) < (nums.length : Int) by omega)]
      exact xs_cons (x_ret (ev_none (ret_ok p)))
    rw [if_neg hlt] at p
    rw [decide_eq_false (show ¬ (k : Int) < (nums.length : Int) by omega), if_neg Bool.false_ne_true]
    refine TV.mono (Φ := fun b σ' => b = pgBad pg ∧ σ' = σ) ?_ ?_
    · cases hp with
      | ref i g =>
        refine tv_or (tv_plain (tv_isiG (whole := pure .none) (by k_is) (by kernel_rfl!) (by k_is) (by kernel_rfl!) rfl clsOk_ref (b := false) ?_ ?_))
        · dsimp only [typ]; kit_is
        refine tv_or (tv_cmp (ev_var rfl (ev_unop (ev_int (p1_neg (p2_eqOwn (by k_is) (by k_is) (by k_is) ⟨_, rfl, ?_⟩))))))
        exact tv_or_nil ⟨rfl, rfl⟩
      | int i hi =>
        refine tv_or (tv_plain (tv_isiG (whole := pure .none) (by k_is) (by kernel_rfl!) (by k_is) (by kernel_rfl!) rfl trivial (b := false) ?_ ?_))
        · dsimp only [typ]; kit_is
        refine tv_or (tv_cmp (ev_var rfl (ev_unop (ev_int (p1_neg (p2_eqi ⟨_, rfl, ?_⟩))))))
        by_cases e : i = -1
        · subst e
          exact ⟨rfl, rfl⟩
        · rw [show (i == -1) = false by simpa using e]
          refine tv_or_nil ⟨?_, rfl⟩
          exact (decide_eq_false (by omega)).symm
      | name t =>
        refine tv_or (tv_plain (tv_isiG (whole := pure .none) (by k_is) (by kernel_rfl!) (by k_is) (by kernel_rfl!) rfl clsOk_name (b := true) ?_ ?_))
        · dsimp only [typ]; kit_is
        exact ⟨rfl, rfl⟩
    rintro b σ' ⟨rfl, rfl⟩
    cases hb : pgBad pg with
    | true =>
      have p : Φ .none σ' := by
        rw [hb, if_pos rfl] at p
        split at p <;> exact p
      exact xs_cons (x_ret (ev_none (ret_ok p)))
    | false =>
      rw [hb, if_neg Bool.false_ne_true] at p
      refine xs_nil ?_
      refine xs_cons (x_for (ie_of (ev_var rfl ⟨nums, iv_list, ?_⟩)))
      refine ⟨fun rem Γ' σ'' => σ'' = σ' ∧ Γ'.lookup (Str.ofString "page") = some pg ∧ Γ'.lookup (Str.ofString "view") = some (.str vw) ∧ Γ'.lookup (Str.ofString "numbers") = some (.list nums) ∧ Γ'.lookup (Str.ofString "most") = some (.int k) ∧ ∃ pre, pre ++ rem = nums ∧ (pre.any fun d => !numOk d) = false, ⟨rfl, rfl, rfl, rfl, rfl, [], rfl, rfl⟩, fun d r Γ' σ'' q => ?_, fun Γ' σ'' q => ?_⟩
      · obtain ⟨rfl, g1, g2, g3, g4, pre, e1, e2⟩ := q
        have hd : Num d := hn d (by rw [← e1]; simp)
        refine ⟨_, av_name (by kernel_rfl!), ?_⟩
        refine xs_cons (x_if (TV.mono (Φ := fun b σ' => b = (!numOk d) ∧ σ' = σ'') ?_ ?_))
        · cases hd with
          | name =>
            refine tv_or (tv_plain (tv_isiG (whole := pure .none) (by k_is) (by kernel_rfl!) (by k_is) (by kernel_rfl!) rfl clsOk_name (b := true) ?_ ?_))
            · dsimp only [typ]; kit_is
            exact ⟨rfl, rfl⟩
          | none =>
            refine tv_or (tv_plain (tv_isiG (whole := pure .none) (by k_is) (by kernel_rfl!) (by k_is) (by kernel_rfl!) rfl trivial (b := false) ?_ ?_))
            · dsimp only [typ]; kit_is
            exact tv_or (tv_cmp (ev_var rfl (ev_true (p2_is rfl ⟨_, rfl, tv_or_nil ⟨rfl, rfl⟩⟩))))
          | int =>
            refine tv_or (tv_plain (tv_isiG (whole := pure .none) (by k_is) (by kernel_rfl!) (by k_is) (by kernel_rfl!) rfl trivial (b := false) ?_ ?_))
            · dsimp only [typ]; kit_is
            exact tv_or (tv_cmp (ev_var rfl (ev_true (p2_is rfl ⟨_, rfl, tv_or_nil ⟨rfl, rfl⟩⟩))))
          | bool =>
            refine tv_or (tv_plain (tv_isiG (whole := pure .none) (by k_is) (by kernel_rfl!) (by k_is) (by kernel_rfl!) rfl trivial (b := false) ?_ ?_))
            · dsimp only [typ]; kit_is
            exact tv_or (tv_cmp (ev_var rfl (ev_true (p2_is rfl ⟨_, rfl, ⟨rfl, rfl⟩⟩))))
          | dec =>
            refine tv_or (tv_plain (tv_isiG (whole := pure .none) (by k_is) (by kernel_rfl!) (by k_is) (by kernel_rfl!) rfl clsOk_dec (b := false) ?_ ?_))
            · dsimp only [typ]; kit_is
            exact tv_or (tv_cmp (ev_var rfl (ev_true (p2_is rfl ⟨_, rfl, tv_or_nil ⟨rfl, rfl⟩⟩))))
        rintro b σ₁ ⟨rfl, rfl⟩
        cases hok : numOk d with
        | false =>
          have hany : (nums.any fun d => !numOk d) = true := List.any_eq_true.mpr ⟨d, by rw [← e1]; simp, by rw [hok]; rfl⟩
          rw [hany, if_pos rfl] at p
          exact xs_cons (x_ret (ev_none (ret_ok p)))
        | true =>
          refine xs_nil (xs_nil ⟨rfl, g1, g2, g3, g4, pre ++ [d], by rw [← e1]; simp, ?_⟩)
          rw [List.any_append, e2]; simp [hok]
      · obtain ⟨rfl, g1, g2, g3, g4, pre, e1, e2⟩ := q
        rw [List.append_nil] at e1
        subst e1
        rw [e2, if_neg Bool.false_ne_true] at p
        refine xs_cons (x_assign (ev_binop (ev_var g3 (ev_binop (ev_list (lv_cons (ev_none (lv_nil ⟨?_, ?_⟩))))))) (by kernel_rfl!))
        · rw [sizeLine_eq]; simp
        refine ev_binop (ev_var g4 (ev_callB (by k_is) rfl (by kernel_rfl!) (lv_cons (ev_var g3 (lv_nil (cv_lenL IsLs.fr (by omega) (p2_sub ?_)))))))
        rw [show ((k : Int) - (pre.length : Int)) = ((k - pre.length : Nat) : Int) by omega]
        refine p2_mulL IsLs.fr (by omega) (p2_addL IsLs.fr IsLs.fr (by omega) (by simp; omega) ?_)
        have hn2 : ∀ d ∈ pre ++ List.replicate (k - pre.length) V.none, Tree 0 d := fun d hd => by
          rcases List.mem_append.mp hd with hd | hd
          · exact (hn d hd).tree
          · rw [List.eq_of_mem_replicate hd]; exact .none
        have hz2 : (pre ++ List.replicate (k - pre.length) V.none).length ≤ 100 := by simp; omega
        revert hn2 hz2 p
        generalize pre ++ List.replicate (k - pre.length) V.none = N
        intro p hn2 hz2
        refine xs_cons (x_ret (ev_tup (lv_cons (ev_call (by k_is) (by kernel_rfl!) (by k_is) (lv_cons (ev_var g1 (lv_nil (FC.cv ((toldF_is hp.tree).2.2 ?_)))))))))
        refine lv_cons (ev_var g2 (lv_cons (ev_comp (cl := []) rfl (by decide) rfl (by decide) (by decide) (fun p hp => nomatch hp) (by simp) [] trivial rfl ?_)))
        refine ie_of (ev_var rfl ⟨N, iv_list, fun rem acc σ₁ => σ₁ = σ'' ∧ acc ++ rem.map toldF = N.map toldF ∧ ∀ d ∈ rem, d ∈ N, ⟨rfl, rfl, fun d hd => hd⟩, ⟨fun rem acc σ₁ q => ?_, fun d r acc σ₁ C q => ?_⟩, fun acc σ₁ q => ?_⟩)
        · have := congrArg List.length q.2.1
          simp at this; omega
        · obtain ⟨rfl, q1, q2⟩ := q
          refine tl_nil ?_
          rw [if_pos rfl]
          refine ev_call (by k_is) (by kernel_rfl!) (by k_is) (lv_cons (ev_var rfl (lv_nil (FC.cv ((toldF_is (hn2 d (q2 d (.head _)))).2.2 ⟨rfl, ?_, fun x hx => q2 x (.tail _ hx)⟩)))))
          rw [← q1]; simp
        · obtain ⟨rfl, q1, q2⟩ := q
          have q1 : acc = N.map toldF := by simpa using q1
          subst q1
          refine lv_nil ⟨?_, (ret_ok p)⟩
          rw [sizeLine_eq]; simp
end
end Mine
end

section
open PySem PySem.W PyProof.Rows PySem.Calls PySem.Spec
set_option maxRecDepth 100000
namespace Mine
section
variable {c : Cx} {env : Env} {n : Nat} {Γ : Gm} {σ : St} {Φ : V → St → Prop} {Ψ : Fl → Gm → St → Prop}
open Classical in
/-- what told answers for a tree -/
noncomputable def toldG (d : V) : V := if h : ∃ r, ToldIs 4 d r then h.choose else .none
theorem toldG_is {d : V} (h : Tree 4 d) : ToldIs 4 d (toldG d) := by
  have e := told_ex h
  unfold toldG
  rw [dif_pos e]
  exact e.choose_spec
noncomputable def entV (tbl : List (Int × V)) (k : Int) : V := match dl tbl k with
  | some (.tup [_, v]) => v
  | _ => .none
theorem entV_is {tbl : List (Int × V)} {k : Int} {x u : V} (h : dl tbl k = some (.tup [x, u])) : entV tbl k = u := by
  unfold entV; rw [h]
noncomputable def rowT (tbl : List (Int × V)) (d : V) : V := match d with
  | .int k => .tup [.int k, .int 0, toldG (entV tbl k)]
  | _ => .none
theorem rowT_is {tbl : List (Int × V)} {k : Int} {x u : V} (h : dl tbl k = some (.tup [x, u])) : rowT tbl (.int k) = .tup [.int k, .int 0, toldG u] := by
  show V.tup [.int k, .int 0, toldG (entV tbl k)] = _
  rw [entV_is h]
/-- what is on the shelf -/
noncomputable def ShOk (tbl : List (Int × V)) : Prop := ∀ p ∈ tbl, ∃ v, p.2 = .tup [.int 0, v] ∧ Tree 4 v
theorem c_stold {tbl : List (Int × V)} {tr : List (Str × V)} (hz : tbl.length < 64) (ht : ShOk tbl) (htr : Tree 4 (.ds tr)) :
    ∃ xs, plainVs xs = true ∧ vdeps xs ≤ 100 ∧ ∀ {n : Nat} {σ : St} {Φ : V → St → Prop}, Φ (.tup xs) σ → FC c (n + 7) (.ref 360) [shelfV (.di tbl) (.ds tr)] σ Φ := by
  have hlen : (srt .i (tbl.map (·.1))).length = tbl.length := by rw [(srt_perm .i _).length_eq, List.length_map]
  have hent : ∀ k : Int, k ∈ srt .i (tbl.map (·.1)) → ∃ u, dl tbl k = some (.tup [.int 0, u]) ∧ Tree 4 u := fun k hk => by
    obtain ⟨v, hv, hm⟩ := dl_some (srt_mem hk)
    obtain ⟨u, hu, hT⟩ := ht _ hm
    have hu : v = .tup [.int 0, u] := hu
    exact ⟨u, hu ▸ hv, hT⟩
  have hrow : ∀ d ∈ (srt .i (tbl.map (·.1))).map fun k => rowT tbl (.int k), plainV d = true ∧ vdep d ≤ 20 := fun d hd => by
    obtain ⟨k, hk, rfl⟩ := List.mem_map.mp hd
    obtain ⟨u, hu, hT⟩ := hent k hk
    have h1 := (toldG_is hT).1
    have h2 := (toldG_is hT).2.1
    have e : rowT tbl (.int k) = _ := rowT_is hu
    refine (show plainV (rowT tbl (.int k)) = true ∧ vdep (rowT tbl (.int k)) ≤ 20 from ?_)
    rw [e]
    refine ⟨by simp [plainV, plainVs, h1], ?_⟩
    simp only [vdep, vdeps]; omega
  refine ⟨[.tup ((srt .i (tbl.map (·.1))).map fun k => rowT tbl (.int k)), toldG (.ds tr)], ?_, ?_, ?_⟩
  · simp only [plainVs, plainV, plainVs_all fun d hd => (hrow d hd).1, (toldG_is htr).1, Bool.and_self]
  · have h1 := vdeps_all fun d hd => (hrow d hd).2
    have h2 := (toldG_is htr).2.1
    simp only [vdeps, vdep]; omega
  intro n σ Φ p
  refine' fc_def ?ho ?hcd [Str.ofString "self"] ?hb ?hl ?hx ?hkd ?hnd ?_ ?h1 ?h2 ?h3
  case ho => k_is
  case hcd => k_is
  case hl => rfl
  case hx => decide +kernel
  case hkd => kernel_rfl!
  case hnd => decide +kernel
  case h1 => rfl
  case h2 => rfl
  case h3 => rfl
  case hb =>
    intro s vs X hv
    obtain ⟨u0, rfl⟩ := len1 hv
    first | exact BindsTo.of_eq rfl | exact kp_binds (K := HpK c.w.params) X (fun S => by kernel_rfl!)
  intro L
  refine xs_cons (x_assign (ev_callT (by k_is) rfl (by kernel_rfl!) (lv_cons ?_)) (by kernel_rfl!))
  refine' ev_comp (cl := ?cl) ?hclos ?hce rfl ?hnm ?hx ?hcl ?hcn [(Str.ofString "self", shelfV (.di tbl) (.ds tr))] ?hcap rfl ?_
  case hclos => exact rfl
  case hce => decide
  case hnm => decide
  case hx => decide
  case hcn => show List.Nodup [Str.ofString "self"]; decide +kernel
  case hcl =>
    intro p hp
    simp only [List.mem_cons, List.mem_nil_iff, or_false] at hp
    subst hp
    rfl
  case hcap => exact ⟨⟨rfl, by kernel_rfl!, _, rfl, rfl⟩, trivial⟩
  refine ie_of (ev_meth0 (ev_var rfl ⟨348, ⟨⟨363, _, rfl, rfl, by k_is, by k_is⟩, by k_is, by k_is⟩, FC.cv (c_numbers hz ⟨_, iv_list, ?_⟩)⟩))
  refine ⟨fun rem acc σ' => σ' = σ ∧ acc ++ rem.map (rowT tbl) = (srt .i (tbl.map (·.1))).map (fun k => rowT tbl (.int k)) ∧ ∀ d ∈ rem, ∃ k, k ∈ srt .i (tbl.map (·.1)) ∧ d = .int k, ⟨rfl, ?_, fun d hd => ?_⟩, ⟨fun rem acc σ' q => ?_, fun d r acc σ' C q => ?_⟩, fun acc σ' q => ?_⟩
  · rw [List.nil_append, List.map_map]; rfl
  · obtain ⟨k, hk, rfl⟩ := List.mem_map.mp hd
    exact ⟨k, hk, rfl⟩
  · have := congrArg List.length q.2.1
    simp [hlen] at this; omega
  · obtain ⟨rfl, q1, q2⟩ := q
    obtain ⟨k, hk, rfl⟩ := q2 _ (.head _)
    obtain ⟨u, hu, hT⟩ := hent k hk
    refine tl_nil ?_
    rw [if_pos rfl]
    refine ev_tup (lv_cons (ev_var rfl (lv_cons (ev_sub (ev_sub (ev_va rfl rfl (by k_is) (by k_is) (by k_is) (by k_is) ?_))))))
    refine ev_var rfl (p2_dget .i IsD.frI rfl hu (ev_int (p2_titem (e := .int 0) (by decide) (by decide) rfl ?_)))
    refine lv_cons (ev_call (by k_is) (by kernel_rfl!) (by k_is) (lv_cons (ev_sub (ev_sub (ev_va rfl rfl (by k_is) (by k_is) (by k_is) (by k_is) ?_)))))
    refine ev_var rfl (p2_dget .i IsD.frI rfl hu (ev_int (p2_titem (e := u) (by decide) (by decide) rfl (lv_nil (FC.cv ((toldG_is hT).2.2 (lv_nil ⟨?_, rfl, ?_, fun x hx => q2 x (.tail _ hx)⟩)))))))
    · rw [sizeLine_eq]; simp
    · rw [← q1, List.map_cons, rowT_is hu]; simp
  · obtain ⟨rfl, q1, q2⟩ := q
    rw [List.map_nil, List.append_nil] at q1
    subst q1
    refine lv_nil (cv_tuple IsLs.fr (by simp [hlen]; omega) ?_)
    refine xs_cons (x_ret (ev_tup (lv_cons (ev_var rfl (lv_cons (ev_call (by k_is) (by kernel_rfl!) (by k_is) (lv_cons ?_)))))))
    refine ev_va rfl rfl (by k_is) (by k_is) (by k_is) (by k_is) (lv_nil (FC.cv ((toldG_is htr).2.2 (lv_nil ⟨?_, (ret_ok p)⟩))))
    rw [sizeLine_eq]; simp
end
end Mine
end

section
open PySem PySem.W PyProof.Rows PySem.Calls PySem.Spec
set_option maxRecDepth 100000
namespace Mine
section
variable {c : Cx} {env : Env} {n : Nat} {Γ : Gm} {σ : St} {Φ : V → St → Prop} {Ψ : Fl → Gm → St → Prop}
/-! the table behind its first row -/
noncomputable abbrev hdT (x : V) (tl : List (Int × V)) : List (Int × V) := (1, .tup [.int 0, x]) :: tl
structure TlOk (tl : List (Int × V)) : Prop where
  nd : ((1 : Int) :: tl.map (·.1)).Nodup
  sh : ShOk tl
noncomputable def Grow (tl tl' : List (Int × V)) : Prop := ∀ i y, dl tl i = some y → dl tl' i = some y
theorem Grow.refl {tl : List (Int × V)} : Grow tl tl := fun _ _ h => h
theorem Grow.trans {a b d : List (Int × V)} (x : Grow a b) (y : Grow b d) : Grow a d := fun i v h => y i v (x i v h)
theorem dl_app {K α : Type} [DecidableEq K] {x : K} : ∀ {l r : List (K × α)}, dl (l ++ r) x = (dl l x).or (dl r x)
  | [], r => rfl
  | (a, d) :: l, r => by
    show (if a = x then some d else dl (l ++ r) x) = (if a = x then some d else dl l x).or (dl r x)
    split
    · rfl
    · exact dl_app
theorem dl_cons {K α : Type} [DecidableEq K] {x y : K} {d : α} {l : List (K × α)} (h : y ≠ x) : dl ((y, d) :: l) x = dl l x := by
  unfold dl
  rw [if_neg h]
  cases l <;> rfl
theorem dl_notin {K α : Type} [DecidableEq K] {x : K} : ∀ {l : List (K × α)}, x ∉ l.map (·.1) → dl l x = none
  | [], _ => rfl
  | (a, d) :: l, h => by
    rw [List.map_cons, List.mem_cons, not_or] at h
    rw [dl_cons fun q => h.1 q.symm, dl_notin h.2]
theorem Grow.app {tl m : List (Int × V)} : Grow tl (tl ++ m) := fun i y h => by rw [dl_app, h]; rfl
theorem TlOk.ne {tl : List (Int × V)} (o : TlOk tl) {i : Int} {y : V} (h : dl tl i = some y) : (1 : Int) ≠ i := fun e => by
  have := o.nd
  rw [List.nodup_cons] at this
  exact this.1 (e ▸ List.mem_map_of_mem (f := (·.1)) (dl_mem h))
theorem TlOk.dl {tl : List (Int × V)} (o : TlOk tl) {x : V} {i : Int} {y : V} (h : dl tl i = some y) : Mine.dl (hdT x tl) i = some y := by
  rw [dl_cons (o.ne h)]; exact h
theorem TlOk.add {tl : List (Int × V)} (o : TlOk tl) {k : Int} {v : V} (h1 : (1 : Int) ≠ k) (h : Mine.dl tl k = none) (hv : Tree 4 v) : TlOk (tl ++ [(k, .tup [.int 0, v])]) := by
  refine ⟨?_, fun p hp => ?_⟩
  · have := o.nd
    rw [List.nodup_cons] at this ⊢
    rw [List.map_append, List.mem_append, not_or, List.nodup_append]
    refine ⟨⟨this.1, by simpa using h1⟩, this.2, by simp, fun a ha b hb => ?_⟩
    simp at hb; subst hb
    exact fun e => dl_none h (e ▸ ha)
  · rcases List.mem_append.mp hp with hp | hp
    · exact o.sh p hp
    · rw [List.mem_singleton.mp hp]; exact ⟨v, rfl, hv⟩
/-- a new row of the table -/
theorem add_new {tl : List (Int × V)} {x v : V} {k : Int} (h : dl (hdT x tl) k = none) : (1 : Int) ≠ k ∧ dl tl k = none ∧ dput (hdT x tl) k v = hdT x (tl ++ [(k, v)]) := by
  have h1 : (1 : Int) ≠ k := fun e => by
    subst e
    unfold dl at h
    rw [if_pos rfl] at h
    cases h
  rw [dl_cons h1] at h
  refine ⟨h1, h, ?_⟩
  unfold dput
  rw [if_neg h1, dput_new (dl_none h)]
theorem ValV.grow {tl tl' : List (Int × V)} {ds : List V} {v : V} (g : Grow tl tl') (h : ValV tl ds v) : ValV tl' ds v := by
  rcases h with h | h | ⟨i, j, h1, h2⟩
  · exact .inl h
  · exact .inr (.inl h)
  · exact .inr (.inr ⟨i, j, h1, g _ _ h2⟩)
theorem Row.len {ds : List V} (h : Row ds) : ds ≠ [] ∧ ds.length ≤ 7 := by
  cases h with
  | one _ => exact ⟨by simp, by simp⟩
  | more _ _ hz => refine ⟨by simp, by simp; omega⟩
theorem Row.tree {m : Nat} {ds : List V} (h : Row ds) : Tree (m + 1) (.list ds) := by
  have hl := h.len
  refine .list ds (by omega) hl.1 fun d hd => ?_
  cases h with
  | one hp => rw [List.mem_singleton.mp hd]; exact hp.tree
  | more hp hn hz =>
    rcases List.mem_cons.mp hd with rfl | hd
    · exact hp.tree
    · rcases List.mem_cons.mp hd with rfl | hd
      · exact .name _
      · exact (hn d hd).tree
theorem ValV.tree {tl : List (Int × V)} {ds : List V} {v : V} {m : Nat} (hr : Row ds) (h : ValV tl ds v) : Tree (m + 2) v ∧ v ≠ .none := by
  rcases h with rfl | rfl | ⟨i, j, rfl, _⟩
  · exact ⟨hr.tree, nofun⟩
  · refine ⟨.dict _ (by simp) (by simp) (by simp) (fun p hp => ?_) fun p hp => ?_, nofun⟩
    · rw [List.mem_singleton.mp hp]; exact nofun
    · rw [List.mem_singleton.mp hp]; exact hr.tree
  · exact ⟨.ref _ _, nofun⟩
theorem ValV.hd {tl : List (Int × V)} (o : TlOk tl) {x : V} {ds : List V} {v : V} (h : ValV tl ds v) : ValV (hdT x tl) ds v := by
  rcases h with h | h | ⟨i, j, h1, h2⟩
  · exact .inl h
  · exact .inr (.inl h)
  · exact .inr (.inr ⟨i, j, h1, o.dl h2⟩)
/-! what _law_names has done -/
noncomputable def oldOf {K : Type} (H : List (K × V × List V)) : List (K × V) := H.map fun h => (h.1, h.2.1)
noncomputable def rowsOf {K : Type} (f : K → List UInt8) (H : List (K × V × List V)) : List (List UInt8 × V) := H.map fun h => (f h.1, V.list h.2.2)
noncomputable def HOk {K : Type} (tl : List (Int × V)) (H : List (K × V × List V)) : Prop := ∀ h ∈ H, Row h.2.2 ∧ ValV tl h.2.2 h.2.1
theorem HOk.grow {K : Type} {tl tl' : List (Int × V)} {H : List (K × V × List V)} (g : Grow tl tl') (h : HOk tl H) : HOk tl' H := fun p hp => ⟨(h p hp).1, (h p hp).2.grow g⟩
theorem HOk.add {K : Type} {tl : List (Int × V)} {H : List (K × V × List V)} (h : HOk tl H) {k : K} {v : V} {ds : List V} (hr : Row ds) (hv : ValV tl ds v) : HOk tl (H ++ [(k, v, ds)]) := fun p hp => by
  rcases List.mem_append.mp hp with hp | hp
  · exact h p hp
  · rw [List.mem_singleton.mp hp]; exact ⟨hr, hv⟩
theorem oldOf_add {K : Type} {H : List (K × V × List V)} {k : K} {v : V} {ds : List V} : oldOf (H ++ [(k, v, ds)]) = oldOf H ++ [(k, v)] := by simp [oldOf]
theorem oldOf_keys {K : Type} {H : List (K × V × List V)} : (oldOf H).map (·.1) = H.map (·.1) := by simp [oldOf]
theorem rowsOf_add {K : Type} {f : K → List UInt8} {H : List (K × V × List V)} {k : K} {v : V} {ds : List V} : rowsOf f (H ++ [(k, v, ds)]) = rowsOf f H ++ [(f k, V.list ds)] := by simp [rowsOf]
theorem dmerge_add {K α : Type} [DecidableEq K] {f l : List (K × α)} {k : K} {d : α} : dput (dmerge f l) k d = dmerge f (l ++ [(k, d)]) := by simp [dmerge]
theorem dmerge_len {K α : Type} [DecidableEq K] : ∀ {l f : List (K × α)}, (dmerge f l).length ≤ f.length + l.length
  | [], f => by simp [dmerge]
  | (x, d) :: l, f => by
    show (dmerge (dput f x d) l).length ≤ _
    have h1 := dmerge_len (l := l) (f := dput f x d)
    have h2 := dput_len (l := f) (x := x) (d := d)
    simp only [List.length_cons]; omega
/-- the table, the draws, so far; left: the turns to come -/
structure NI (tl₀ tl : List (Int × V)) (y : Int) (left : Nat) : Prop where
  y0 : 0 ≤ y
  y1 : y + 30 * left ≤ 1000
  ok : TlOk tl
  gr : Grow tl₀ tl
  len : tl.length + left ≤ 20
theorem NI.step {tl₀ tl tl' : List (Int × V)} {y y' : Int} {k : Nat} (i : NI tl₀ tl y (k + 1)) (h1 : y ≤ y') (h2 : y' ≤ y + 30) (o : TlOk tl') (g : Grow tl tl') (hl : tl'.length ≤ tl.length + 1) : NI tl₀ tl' y' k :=
  ⟨by have := i.y0; omega, by have := i.y1; omega, o, i.gr.trans g, by have := i.len; omega⟩
theorem NI.skip {tl₀ tl : List (Int × V)} {y : Int} {k : Nat} (i : NI tl₀ tl y (k + 1)) : NI tl₀ tl (y + 1) k := i.step (by omega) (by omega) i.ok .refl (by omega)
structure NOut (tl : List (Int × V)) (H : List (Str × V × List V)) (T : List (List UInt8 × V × List V)) : Prop where
  hH : HOk tl H
  hT : HOk tl T
  nH : (H.map (·.1)).Nodup
  nT : (T.map (·.1)).Nodup
  kH : ∀ h ∈ H, ∃ ch : Nat, ch < 128 ∧ h.1 = ⟨#[ch]⟩
  lH : H.length ≤ 4
  lT : T.length ≤ 4
theorem c_valueN {a r t : Addr} {R : MO} {rest : St} {tr : V} {ds : List V} {tl : List (Int × V)} {x y : Int} (hr : Row ds) (o : TlOk tl) (hy : 0 ≤ y ∧ y < 90000) (hz : tl.length ≤ 90)
    (p : ∀ v x' tl', ValV tl' ds v → TlOk tl' → Grow tl tl' → tl'.length ≤ tl.length + 1 → Φ v ((a, .list [.int x', .int (y + 1)]) :: (r, R) :: (t, .dict .i (hdT (.cell r) tl')) :: rest)) :
    FC c (n + 4) (.ref 652) [.cell a, shelfV (.cell t) tr, .list ds] ((a, .list [.int x, .int y]) :: (r, R) :: (t, .dict .i (hdT (.cell r) tl)) :: rest) Φ := by
  refine c_value 0 2 (by decide) rfl rfl hy (by simp [hdT]; omega) (fun x' => p _ x' tl (.inl rfl) o .refl (by omega)) (fun x' => p _ x' tl (.inr (.inl rfl)) o .refl (by omega)) fun x' k h1 h2 => ?_
  obtain ⟨h3, h4, h5⟩ := add_new (v := .tup [.int 0, .list ds]) h2
  have e := p (refV k 0) x' (tl ++ [(k, .tup [.int 0, .list ds])]) (.inr (.inr ⟨k, 0, rfl, by rw [dl_app, h4]; simp [dl]⟩)) (o.add h3 h4 hr.tree) .app (by simp)
  rw [← h5] at e
  exact e
end
end Mine
end

section
open PySem PySem.W PyProof.Rows PySem.Calls PySem.Spec
set_option maxRecDepth 100000
namespace Mine
section
variable {c : Cx} {env : Env} {n : Nat} {Γ : Gm} {σ : St} {Φ : V → St → Prop} {Ψ : Fl → Gm → St → Prop}
theorem erase_notin {α : Type} {x : α} : ∀ {l : List α} {j : Nat}, l.Nodup → l[j]? = some x → x ∉ l.eraseIdx j
  | [], _, _, e => by cases e
  | y :: l, 0, nd, e => by
    rw [List.getElem?_cons_zero] at e
    cases e
    rw [List.nodup_cons] at nd
    exact nd.1
  | y :: l, j + 1, nd, e => by
    rw [List.getElem?_cons_succ] at e
    rw [List.nodup_cons] at nd
    rw [List.eraseIdx_cons_succ, List.mem_cons, not_or]
    exact ⟨fun q => nd.1 (q ▸ List.mem_of_getElem? e), erase_notin nd.2 e⟩
/-- a cell is frozen -/
theorem xs_frzG (j : Nat) {a : Addr} {m : MO} {D : V} (e : σ[j]? = some (a, m)) (hf : frozen m = some D) {Γ' : Gm} {σ' : St} (hg : ImpG c.w a D Γ Γ') (hs : ImpS c.w a D σ σ') (he : adr σ' = (adr σ).eraseIdx j) {t : Sem Flow} (h : XV c env n Γ' σ' t Ψ) : XV c env n Γ σ t Ψ := by
  refine ⟨fun A own s Q E ar bd k => ?_⟩
  have hna : a ∉ adr σ' := by
    rw [he]
    exact erase_notin bd.ow.nd (by rw [adr, List.getElem?_map, e]; rfl)
  exact (xs_freeze j e hf hg hs (by rw [he]; exact List.eraseIdx_sublist _ _) hna h).run A own s Q E ar bd k
noncomputable def chS (ch : Nat) : Str := ⟨#[ch]⟩
noncomputable def keyA : List Nat := [65, 66, 67, 68]
noncomputable def keyT : List (List UInt8) := [[66], [68], [69], [70]]
theorem keyA_is : [V.str (Str.ofString "A"), V.str (Str.ofString "B"), V.str (Str.ofString "C"), V.str (Str.ofString "D")] = keyA.map fun ch => V.str (chS ch) := by
  have h : [Str.ofString "A", Str.ofString "B", Str.ofString "C", Str.ofString "D"] = keyA.map chS := by decide +kernel
  have := congrArg (List.map V.str) h
  rw [List.map_map] at this
  exact this
theorem keyT_is : [V.bytes [66], V.bytes [68], V.bytes [69], V.bytes [70]] = keyT.map V.bytes := rfl
/-- the first loop -/
structure L1 (a r t w o : Addr) (R : MO) (tl₀ : List (Int × V)) (rem : List V) (σ' : St) (dn ks : List Nat) (x y : Int) (tl : List (Int × V)) (H : List (Str × V × List V)) : Prop where
  kk : dn ++ ks = keyA
  hrem : rem = ks.map fun ch => V.str (chS ch)
  ni : NI tl₀ tl y (ks.length + 4)
  ok : HOk tl H
  nd : (H.map (·.1)).Nodup
  ky : ∀ h ∈ H, ∃ ch ∈ dn, h.1 = chS ch
  len : H.length + ks.length ≤ 4
  st : σ' = [(a, .list [.int x, .int y]), (r, R), (t, .dict .i (hdT (.cell r) tl)), (w, .dict .b (dmerge [] (rowsOf encB H))), (o, .dict .s (oldOf H))]
theorem chS_inj {a b : Nat} (h : chS a = chS b) : a = b := by
  have := congrArg Str.cps h
  simpa [chS] using this
theorem L1.new {a r t w o : Addr} {R : MO} {tl₀ : List (Int × V)} {rem : List V} {σ' : St} {dn ks : List Nat} {x y : Int} {tl : List (Int × V)} {H : List (Str × V × List V)} {ch : Nat} (l : L1 a r t w o R tl₀ rem σ' dn (ch :: ks) x y tl H) : chS ch ∉ H.map (·.1) := fun q => by
  obtain ⟨h, hm, e⟩ := List.mem_map.mp q
  obtain ⟨ch', h1, h2⟩ := l.ky h hm
  have h3 : ch' = ch := chS_inj (h2.symm.trans e)
  subst h3
  have nd : (dn ++ ch' :: ks).Nodup := by rw [l.kk]; decide
  rw [List.nodup_append] at nd
  exact nd.2.2 _ h1 _ (.head _) rfl
/-- the second loop -/
structure L2 (a r t w o f : Addr) (R : MO) (tl₀ : List (Int × V)) (H : List (Str × V × List V)) (rem : List V) (σ' : St) (dn ks : List (List UInt8)) (x y : Int) (tl : List (Int × V)) (T : List (List UInt8 × V × List V)) : Prop where
  kk : dn ++ ks = keyT
  hrem : rem = ks.map V.bytes
  ni : NI tl₀ tl y ks.length
  okH : HOk tl H
  ok : HOk tl T
  nd : (T.map (·.1)).Nodup
  ky : ∀ h ∈ T, h.1 ∈ dn
  len : T.length + ks.length ≤ 4
  st : σ' = [(a, .list [.int x, .int y]), (r, R), (t, .dict .i (hdT (.cell r) tl)), (w, .dict .b (dmerge (dmerge [] (rowsOf encB H)) (rowsOf id T))), (o, .dict .s (oldOf H)), (f, .list (flatV (oldOf T)))]
theorem L2.new {a r t w o f : Addr} {R : MO} {tl₀ : List (Int × V)} {H : List (Str × V × List V)} {rem : List V} {σ' : St} {dn ks : List (List UInt8)} {x y : Int} {tl : List (Int × V)} {T : List (List UInt8 × V × List V)} {b : List UInt8} (l : L2 a r t w o f R tl₀ H rem σ' dn (b :: ks) x y tl T) : b ∉ T.map (·.1) := fun q => by
  obtain ⟨h, hm, e⟩ := List.mem_map.mp q
  have h1 := l.ky h hm
  have nd : (dn ++ b :: ks).Nodup := by rw [l.kk]; decide
  rw [List.nodup_append] at nd
  exact nd.2.2 _ h1 _ (.head _) e
theorem flatV_add {l : List (List UInt8 × V)} {b : List UInt8} {v : V} : (flatV l ++ [stringV b]) ++ [v] = flatV (l ++ [(b, v)]) := by simp [flatV]
theorem oldOf_len {K : Type} {H : List (K × V × List V)} : (oldOf H).length = H.length := by simp [oldOf]
theorem rowsOf_len {K : Type} {f : K → List UInt8} {H : List (K × V × List V)} : (rowsOf f H).length = H.length := by simp [rowsOf]
theorem nd_add {K α : Type} {l : List (K × α)} {k : K} {v : α} (h : (l.map (·.1)).Nodup) (hk : k ∉ l.map (·.1)) : ((l ++ [(k, v)]).map (·.1)).Nodup := by
  rw [List.map_append, List.nodup_append]
  refine ⟨h, by simp, fun a ha b hb => ?_⟩
  simp at hb; subst hb
  exact fun e => hk (e ▸ ha)
theorem keyA_mem {dn ks : List Nat} {ch : Nat} (h : dn ++ ch :: ks = keyA) : ch < 128 := by
  have : ch ∈ keyA := by rw [← h]; simp
  simp only [keyA, List.mem_cons, List.mem_nil_iff, or_false] at this
  omega
theorem c_names {a r t w : Addr} {R : MO} {tr : V} {tl : List (Int × V)} {x y : Int} (ni : NI tl tl y 8)
    (p : ∀ x' y' tl' H T, NI tl tl' y' 0 → NOut tl' H T → Φ (.tup [.ds (oldOf H), .list (flatV (oldOf T))]) [(a, .list [.int x', .int y']), (r, R), (t, .dict .i (hdT (.cell r) tl')), (w, .dict .b (dmerge (dmerge [] (rowsOf encB H)) (rowsOf id T)))]) :
    FC c (n + 6) (.ref 659) [.cell a, shelfV (.cell t) tr, .cell w] [(a, .list [.int x, .int y]), (r, R), (t, .dict .i (hdT (.cell r) tl)), (w, .dict .b [])] Φ := by
  refine' fc_def ?ho ?hcd [Str.ofString "pen", Str.ofString "shelf", Str.ofString "rows"] ?hb ?hl ?hx ?hkd ?hnd ?_ ?h1 ?h2 ?h3
  case ho => k_is
  case hcd => k_is
  case hl => rfl
  case hx => decide +kernel
  case hkd => kernel_rfl!
  case hnd => decide +kernel
  case h1 => rfl
  case h2 => rfl
  case h3 => rfl
  case hb =>
    intro s vs X hv
    obtain ⟨u0, u1, u2, rfl⟩ := len3 hv
    first | exact BindsTo.of_eq rfl | exact kp_binds (K := HpK c.w.params) X (fun S => by kernel_rfl!)
  intro L
  refine xs_cons (x_assign (ev_dict0C .s fun o => ?_) (by kernel_rfl!))
  refine xs_cons (x_for (ie_of ?_))
  refine ev_tup (lv_cons (ev_str (lv_cons (ev_str (lv_cons (ev_str (lv_cons (ev_str ?_))))))))
  refine lv_nil ⟨?_, _, iv_tuple, ?_⟩
  · rw [sizeLine_eq]; simp
  refine ⟨fun rem Γ' σ' => (Γ'.lookup (Str.ofString "pen") = some (.cell a) ∧ Γ'.lookup (Str.ofString "shelf") = some (shelfV (.cell t) tr) ∧ Γ'.lookup (Str.ofString "rows") = some (.cell w) ∧ Γ'.lookup (Str.ofString "old") = some (.cell o)) ∧ ∃ dn ks x y tl' H, L1 a r t w o R tl rem σ' dn ks x y tl' H,
    ⟨⟨rfl, rfl, rfl, rfl⟩, [], keyA, x, y, tl, [], ⟨rfl, keyA_is, ni, (fun h hh => nomatch hh), List.nodup_nil, (fun h hh => nomatch hh), by decide, rfl⟩⟩, fun d rr Γ' σ' q => ?_, fun Γ' σ' q => ?_⟩
  · obtain ⟨⟨g1, g2, g3, g4⟩, dn, ks, x, y, tl', H, l⟩ := q
    cases ks with
    | nil => have := l.hrem; cases this
    | cons ch ks =>
      have hr := l.hrem
      rw [List.map_cons] at hr
      injection hr with hr1 hr2
      subst hr1 hr2
      have hst := l.st
      subst hst
      have hni := l.ni
      rw [List.length_cons, show ks.length + 1 + 4 = ks.length + 4 + 1 by omega] at hni
      have hy0 := hni.y0
      have hy1 := hni.y1
      have htl := hni.len
      have hch := keyA_mem l.kk
      have hks : dn ++ [ch] ++ ks = keyA := by rw [← l.kk]; simp
      have hlen : H.length + 1 + ks.length ≤ 4 := by have := l.len; simp at this; omega
      refine ⟨_, av_name (by kernel_rfl!), ?_⟩
      refine xs_cons (x_if (tv_cmp (ev_call (by k_is) (by kernel_rfl!) (by k_is) (lv_cons (ev_var g1 ?_)))))
      refine lv_cons (ev_int (lv_nil (FC.cv (c_draw 0 rfl (by omega) (by omega) (by omega) fun d x1 a1 b1 => ?_))))
      refine ev_int (p2_eqi ⟨_, rfl, ?_⟩)
      cases d == 0 with
      | false =>
        exact xs_nil (xs_nil ⟨⟨g1, g2, g3, g4⟩, dn ++ [ch], ks, x1, y + 1, tl', H, ⟨hks, rfl, hni.skip, l.ok, l.nd, fun h hh => by obtain ⟨c', h1, h2⟩ := l.ky h hh; exact ⟨c', List.mem_append_left _ h1, h2⟩, by omega, rfl⟩⟩)
      | true =>
        refine xs_cons (x_assign (ev_call (by k_is) (by kernel_rfl!) (by k_is) (lv_cons (ev_var g1 ?_))) (by kernel_rfl!))
        refine lv_nil (FC.cv (c_row 0 rfl (by omega) fun ds x2 y2 hrow a2 b2 => ?_))
        refine xs_cons (x_setitem (ev_var rfl (ev_var g3 ?_)))
        refine ev_callT (by k_is) rfl (by kernel_rfl!) (lv_cons (ev_list (lv_cons ?_)))
        refine ev_callB (by k_is) rfl (by kernel_rfl!) (lv_cons (ev_var rfl (lv_nil (cv_ord (lv_nil ⟨?_, ?_⟩)))))
        · rw [sizeLine_eq]; simp
        refine lv_nil (cv_bytesL (ns := [(ch : Int)]) IsLs.fr ?_ (by simp) (s3_dict .b (x := encB (chS ch)) 3 rfl rfl ?_ ?_))
        · intro i hi
          rw [List.mem_singleton.mp hi]; omega
        · have h1 := dmerge_len (l := rowsOf encB H) (f := [])
          rw [rowsOf_len] at h1
          simp at h1; omega
        rw [dmerge_add]
        change XV _ _ _ _ [(a, .list [.int x2, .int y2]), (r, R), (t, .dict .i (hdT (.cell r) tl')), (w, .dict .b (dmerge [] (rowsOf encB H ++ [(encB (chS ch), .list ds)]))), (o, .dict .s (oldOf H))] _ _
        refine xs_cons (x_setitem (ev_call (by k_is) (by kernel_rfl!) (by k_is) (lv_cons (ev_var g1 (lv_cons (ev_var g2 (lv_cons (ev_var rfl ?_))))))))
        refine lv_nil (FC.cv (c_valueN hrow hni.ok (by omega) (by omega) fun v x3 tl2 hv ho hg hl => ?_))
        refine ev_var g4 (ev_var rfl (s3_dict .s (x := chS ch) 4 rfl rfl ?_ ?_))
        · rw [oldOf_len]; omega
        rw [dput_new (by rw [oldOf_keys]; exact l.new), ← oldOf_add, ← rowsOf_add]
        refine xs_nil (xs_nil ⟨⟨g1, g2, g3, g4⟩, dn ++ [ch], ks, x3, y2 + 1, tl2, H ++ [(chS ch, v, ds)], ⟨hks, rfl, hni.step (by omega) (by omega) ho hg hl, (l.ok.grow hg).add hrow hv, nd_add l.nd l.new, fun h hh => ?_, by simp; omega, rfl⟩⟩)
        rcases List.mem_append.mp hh with hh | hh
        · obtain ⟨c', h1, h2⟩ := l.ky h hh
          exact ⟨c', List.mem_append_left _ h1, h2⟩
        · rw [List.mem_singleton.mp hh]; exact ⟨ch, by simp, rfl⟩
  obtain ⟨⟨g1, g2, g3, g4⟩, dn, ks, x, y, tl', H, l⟩ := q
  have hks : ks = [] := by
    cases ks with
    | nil => rfl
    | cons _ _ => have := l.hrem; cases this
  subst hks
  have hst := l.st
  subst hst
  refine xs_cons (x_assign (ev_listC (lv_nil ⟨?_, fun f => ?_⟩)) (by kernel_rfl!))
  · rw [sizeLine_eq]; simp
  refine xs_cons (x_for (ie_of ?_))
  refine ev_tup (lv_cons (ev_bytes (lv_cons (ev_bytes (lv_cons (ev_bytes (lv_cons (ev_bytes ?_))))))))
  refine lv_nil ⟨?_, _, iv_tuple, ?_⟩
  · rw [sizeLine_eq]; simp
  refine ⟨fun rem Γ' σ' => (Γ'.lookup (Str.ofString "pen") = some (.cell a) ∧ Γ'.lookup (Str.ofString "shelf") = some (shelfV (.cell t) tr) ∧ Γ'.lookup (Str.ofString "rows") = some (.cell w) ∧ Γ'.lookup (Str.ofString "old") = some (.cell o) ∧ Γ'.lookup (Str.ofString "flat") = some (.cell f)) ∧ ∃ dn ks x y tl' T, L2 a r t w o f R tl H rem σ' dn ks x y tl' T,
    ⟨⟨g1, g2, g3, g4, rfl⟩, [], keyT, x, y, tl', [], ⟨rfl, keyT_is, l.ni, l.ok, (fun h hh => nomatch hh), List.nodup_nil, (fun h hh => nomatch hh), by decide, rfl⟩⟩, fun d rr Γ' σ' q => ?_, fun Γ' σ' q => ?_⟩
  · have hlH : H.length ≤ 4 := by have := l.len; omega
    clear g1 g2 g3 g4
    obtain ⟨⟨g1, g2, g3, g4, g5⟩, dn, ks, x, y, tl', T, l⟩ := q
    cases ks with
    | nil => have := l.hrem; cases this
    | cons b ks =>
      have hr := l.hrem
      rw [List.map_cons] at hr
      injection hr with hr1 hr2
      subst hr1 hr2
      have hst := l.st
      subst hst
      have hni := l.ni
      rw [List.length_cons] at hni
      have hy0 := hni.y0
      have hy1 := hni.y1
      have htl := hni.len
      have hks : dn ++ [b] ++ ks = keyT := by rw [← l.kk]; simp
      have hlen : T.length + 1 + ks.length ≤ 4 := by have := l.len; simp at this; omega
      have hfl : (flatV (oldOf T)).length ≤ 8 := by rw [flatV_len, oldOf_len]; omega
      refine ⟨_, av_name (by kernel_rfl!), ?_⟩
      refine xs_cons (x_if (tv_cmp (ev_call (by k_is) (by kernel_rfl!) (by k_is) (lv_cons (ev_var g1 ?_)))))
      refine lv_cons (ev_int (lv_nil (FC.cv (c_draw 0 rfl (by omega) (by omega) (by omega) fun d x1 a1 b1 => ?_))))
      refine ev_int (p2_eqi ⟨_, rfl, ?_⟩)
      cases d == 0 with
      | false =>
        exact xs_nil (xs_nil ⟨⟨g1, g2, g3, g4, g5⟩, dn ++ [b], ks, x1, y + 1, tl', T, ⟨hks, rfl, hni.skip, l.okH, l.ok, l.nd, fun h hh => List.mem_append_left _ (l.ky h hh), by omega, rfl⟩⟩)
      | true =>
        refine xs_cons (x_assign (ev_call (by k_is) (by kernel_rfl!) (by k_is) (lv_cons (ev_var g1 ?_))) (by kernel_rfl!))
        refine lv_nil (FC.cv (c_row 0 rfl (by omega) fun ds x2 y2 hrow a2 b2 => ?_))
        refine xs_cons (x_setitem (ev_var rfl (ev_var g3 (ev_var rfl (s3_dict .b (x := b) 3 rfl rfl ?_ ?_)))))
        · have h1 := dmerge_len (l := rowsOf id T) (f := dmerge [] (rowsOf encB H))
          have h2 := dmerge_len (l := rowsOf encB H) (f := [])
          rw [rowsOf_len] at h1 h2
          simp at h1 h2; omega
        rw [dmerge_add]
        change XV _ _ _ _ [(a, .list [.int x2, .int y2]), (r, R), (t, .dict .i (hdT (.cell r) tl')), (w, .dict .b (dmerge (dmerge [] (rowsOf encB H)) (rowsOf id T ++ [(id b, .list ds)]))), (o, .dict .s (oldOf H)), (f, .list (flatV (oldOf T)))] _ _
        refine xs_cons (x_expr (ev_methB (ev_var g5 ⟨_, mok_list (IsLs.at_ 5 rfl) PySem.F.slot_list_append PySem.F.type_list_append, lv_cons ?_⟩)))
        refine ev_call (by k_is) (by kernel_rfl!) (by k_is) (lv_cons (ev_var rfl (lv_nil (FC.cv (c_String (lv_nil (cv_append 5 rfl (by omega) ?_)))))))
        change XV _ _ _ _ [(a, .list [.int x2, .int y2]), (r, R), (t, .dict .i (hdT (.cell r) tl')), (w, .dict .b (dmerge (dmerge [] (rowsOf encB H)) (rowsOf id T ++ [(id b, .list ds)]))), (o, .dict .s (oldOf H)), (f, .list (flatV (oldOf T) ++ [stringV b]))] _ _
        refine xs_cons (x_expr (ev_methB (ev_var g5 ⟨_, mok_list (IsLs.at_ 5 rfl) PySem.F.slot_list_append PySem.F.type_list_append, lv_cons ?_⟩)))
        refine ev_call (by k_is) (by kernel_rfl!) (by k_is) (lv_cons (ev_var g1 (lv_cons (ev_var g2 (lv_cons (ev_var rfl ?_))))))
        refine lv_nil (FC.cv (c_valueN hrow hni.ok (by omega) (by omega) fun v x3 tl2 hv ho hg hl => lv_nil (cv_append 5 rfl (by simp; omega) ?_)))
        rw [flatV_add, ← oldOf_add, ← rowsOf_add]
        refine xs_nil (xs_nil ⟨⟨g1, g2, g3, g4, g5⟩, dn ++ [b], ks, x3, y2 + 1, tl2, T ++ [(b, v, ds)], ⟨hks, rfl, hni.step (by omega) (by omega) ho hg hl, l.okH.grow hg, (l.ok.grow hg).add hrow hv, nd_add l.nd l.new, fun h hh => ?_, by simp; omega, rfl⟩⟩)
        rcases List.mem_append.mp hh with hh | hh
        · exact List.mem_append_left _ (l.ky h hh)
        · rw [List.mem_singleton.mp hh]; simp
  have hlH : H.length ≤ 4 := by have := l.len; omega
  have hky : ∀ h ∈ H, ∃ ch : Nat, ch < 128 ∧ h.1 = ⟨#[ch]⟩ := fun h hh => by
    obtain ⟨ch, h1, h2⟩ := l.ky h hh
    have : ch ∈ keyA := by rw [← l.kk]; exact List.mem_append_left _ h1
    simp only [keyA, List.mem_cons, List.mem_nil_iff, or_false] at this
    exact ⟨ch, by omega, h2⟩
  have hndH := l.nd
  clear g1 g2 g3 g4
  obtain ⟨⟨g1, g2, g3, g4, g5⟩, dn, ks, x, y, tl', T, l⟩ := q
  have hks : ks = [] := by
    cases ks with
    | nil => rfl
    | cons _ _ => have := l.hrem; cases this
  subst hks
  have hst := l.st
  subst hst
  refine xs_frzG 4 (D := .ds (oldOf H)) rfl rfl (Γ' := [(Str.ofString "old", .ds (oldOf H)), (Str.ofString "flat", .cell f)]) ⟨⟨_, g4, .cell⟩, ⟨_, g5, .rfl⟩, trivial⟩ (σ' := [(a, .list [.int x, .int y]), (r, R), (t, .dict .i (hdT (.cell r) tl')), (w, .dict .b (dmerge (dmerge [] (rowsOf encB H)) (rowsOf id T))), (f, .list (flatV (oldOf T)))]) ?_ rfl ?_
  · intro p hp
    refine ⟨p.2, ?_, .same _⟩
    simp only [List.mem_cons, List.mem_nil_iff, or_false] at hp ⊢
    rcases hp with rfl | rfl | rfl | rfl | rfl <;> simp
  refine xs_frzG 4 (D := .list (flatV (oldOf T))) rfl rfl (Γ' := [(Str.ofString "old", .ds (oldOf H)), (Str.ofString "flat", .list (flatV (oldOf T)))]) ⟨⟨_, rfl, .rfl⟩, ⟨_, rfl, .cell⟩, trivial⟩ (σ' := [(a, .list [.int x, .int y]), (r, R), (t, .dict .i (hdT (.cell r) tl')), (w, .dict .b (dmerge (dmerge [] (rowsOf encB H)) (rowsOf id T)))]) ?_ rfl ?_
  · intro p hp
    refine ⟨p.2, ?_, .same _⟩
    simp only [List.mem_cons, List.mem_nil_iff, or_false] at hp ⊢
    rcases hp with rfl | rfl | rfl | rfl <;> simp
  refine xs_cons (x_ret (ev_tup (lv_cons (ev_var rfl (lv_cons (ev_var rfl (lv_nil ⟨?_, (ret_ok ?_)⟩)))))))
  · rw [sizeLine_eq]; simp
  exact p x y tl' H T l.ni ⟨l.okH, l.ok, hndH, l.nd, hky, hlH, by have := l.len; simpa using this⟩
end
end Mine
end

section
open PySem PySem.W PyProof.Rows PySem.Calls PySem.Spec
set_option maxRecDepth 100000
namespace Mine
/-! the plain law: what named tells is what the rows say -/
theorem srt_ins {k : Kd} (x : k.T) : ∀ l : List k.T, SrtOk k l → ∃ l', l'.Perm (x :: l) ∧ SrtOk k l'
  | [], _ => ⟨[x], .refl _, by simp [SrtOk]⟩
  | y :: l, h => by
    have h0 := h
    unfold SrtOk at h
    rw [List.pairwise_cons] at h
    by_cases e : (sk k).blt (skEnc k y) (skEnc k x) = false
    · refine ⟨x :: y :: l, .refl _, ?_⟩
      unfold SrtOk
      rw [List.pairwise_cons]
      refine ⟨fun z hz => ?_, h0⟩
      rcases List.mem_cons.mp hz with rfl | hz
      · exact e
      · exact PyProof.Rows.KeyOrd.kle_trans (O := (sk k).toKeyOrd) e (h.1 z hz)
    · obtain ⟨l', h1, h2⟩ := srt_ins x l h.2
      refine ⟨y :: l', (h1.cons y).trans (.swap _ _ _), ?_⟩
      unfold SrtOk
      rw [List.pairwise_cons]
      refine ⟨fun z hz => ?_, h2⟩
      rcases List.mem_cons.mp (h1.mem_iff.mp hz) with rfl | hz
      · exact PyProof.Rows.KeyOrd.kle_of_klt (O := (sk k).toKeyOrd) (show (sk k).blt _ _ = true by simpa using e)
      · exact h.1 z hz
theorem srt_ex {k : Kd} : ∀ ks : List k.T, ∃ l, l.Perm ks ∧ SrtOk k l
  | [] => ⟨[], .refl _, by simp [SrtOk]⟩
  | x :: r => by
    obtain ⟨l, h1, h2⟩ := srt_ex r
    obtain ⟨l', h3, h4⟩ := srt_ins x l h2
    exact ⟨l', h3.trans (h1.cons x), h4⟩
theorem srt_congr {k : Kd} {ks ks' : List k.T} (h : ks.Perm ks') : srt k ks = srt k ks' := by
  obtain ⟨l, h1, h2⟩ := srt_ex ks
  rw [← srt_eq h1 h2, ← srt_eq (h1.trans h) h2]
theorem dl_dput {K α : Type} [DecidableEq K] {k x : K} {v : α} : ∀ {l : List (K × α)}, dl (dput l k v) x = if k = x then some v else dl l x
  | [] => rfl
  | (a, d) :: l => by
    unfold dput
    by_cases e : a = k
    · subst e
      rw [if_pos rfl]
      by_cases e2 : a = x
      · subst e2
        rw [if_pos rfl]
        show (if a = a then some v else dl l a) = some v
        rw [if_pos rfl]
      · rw [if_neg e2, dl_cons e2, dl_cons e2]
    · rw [if_neg e]
      by_cases e2 : a = x
      · subst e2
        rw [if_neg fun q => e q.symm]
        show (if a = a then some d else dl (dput l k v) a) = (if a = a then some d else dl l a)
        rw [if_pos rfl, if_pos rfl]
      · rw [dl_cons e2, dl_cons e2, dl_dput]
theorem dl_dmerge {K α : Type} [DecidableEq K] {x : K} : ∀ {l f : List (K × α)}, (l.map (·.1)).Nodup → dl (dmerge f l) x = (dl l x).or (dl f x)
  | [], f, _ => by simp [dmerge]; rfl
  | (k, v) :: l, f, nd => by
    rw [List.map_cons, List.nodup_cons] at nd
    show dl (dmerge (dput f k v) l) x = _
    rw [dl_dmerge nd.2, dl_dput]
    show _ = (if k = x then some v else dl l x).or (dl f x)
    by_cases e : k = x
    · subst e
      rw [if_pos rfl, if_pos rfl, dl_notin nd.1]; rfl
    · rw [if_neg e, if_neg e]
theorem dmerge_nodup {K α : Type} [DecidableEq K] : ∀ {l f : List (K × α)}, (f.map (·.1)).Nodup → ((dmerge f l).map (·.1)).Nodup
  | [], f, h => h
  | (k, v) :: l, f, h => dmerge_nodup (l := l) (f := dput f k v) (dput_nodup h)
theorem mem_dl {K α : Type} [DecidableEq K] {x : K} {v : α} : ∀ {l : List (K × α)}, (l.map (·.1)).Nodup → (x, v) ∈ l → dl l x = some v
  | (a, d) :: l, nd, h => by
    rw [List.map_cons, List.nodup_cons] at nd
    rcases List.mem_cons.mp h with e | h
    · cases e
      show (if x = x then some v else dl l x) = some v
      rw [if_pos rfl]
    · have : a ≠ x := fun e => nd.1 (e ▸ List.mem_map_of_mem (f := (·.1)) h)
      rw [dl_cons this, mem_dl nd.2 h]
theorem dl_ext {K α : Type} [DecidableEq K] {l m : List (K × α)} (h1 : (l.map (·.1)).Nodup) (h2 : (m.map (·.1)).Nodup) (h : ∀ p, p ∈ l ↔ p ∈ m) (x : K) : dl l x = dl m x := by
  cases e : dl l x with
  | some v => rw [mem_dl h2 ((h _).mp (dl_mem e))]
  | none =>
    cases e2 : dl m x with
    | none => rfl
    | some v => exact absurd (List.mem_map_of_mem (f := (·.1)) ((h _).mpr (dl_mem e2))) (dl_none e)
noncomputable def mapV {K : Type} (f : V → V) (l : List (K × V)) : List (K × V) := l.map fun p => (p.1, f p.2)
theorem mapV_keys {K : Type} {f : V → V} {l : List (K × V)} : (mapV f l).map (·.1) = l.map (·.1) := by simp [mapV]
theorem dl_mapV {K : Type} [DecidableEq K] {f : V → V} {x : K} : ∀ {l : List (K × V)}, dl (mapV f l) x = (dl l x).map f
  | [] => rfl
  | (a, d) :: l => by
    show (if a = x then some (f d) else dl (mapV f l) x) = (if a = x then some d else dl l x).map f
    split
    · rfl
    · exact dl_mapV
theorem keys_perm {l m : List (List UInt8 × V)} (h1 : (l.map (·.1)).Nodup) (h2 : (m.map (·.1)).Nodup) {f : V → V} (h : ∀ x, dl l x = (dl m x).map f) : (l.map (·.1)).Perm (m.map (·.1)) := by
  refine (List.perm_ext_iff_of_nodup h1 h2).mpr fun x => ?_
  have key : ∀ n : List (List UInt8 × V), x ∈ n.map (·.1) ↔ (dl n x).isSome = true := fun n => by
    constructor
    · intro hx
      obtain ⟨v, hv, _⟩ := dl_some hx
      rw [hv]; rfl
    · intro hx
      obtain ⟨v, hv⟩ := Option.isSome_iff_exists.mp hx
      exact List.mem_map_of_mem (f := (·.1)) (dl_mem hv)
  rw [key, key, h x, Option.isSome_map]
/-! the rows of values -/
noncomputable def valRow (tbl : List (Int × V)) : V → List V
  | .list ds => ds
  | .ds [(_, .list ds)] => ds
  | .inst _ [(_, .int i), _] => match dl tbl i with
    | some (.tup [_, .list ds]) => ds
    | _ => []
  | _ => []
theorem valRow_is {tbl : List (Int × V)} {ds : List V} {v : V} (h : ValV tbl ds v) : valRow tbl v = ds := by
  rcases h with rfl | rfl | ⟨i, g, rfl, h⟩
  · rfl
  · rfl
  · show (match dl tbl i with | some (.tup [_, .list ds]) => ds | _ => []) = ds
    rw [h]
noncomputable def valR (tbl : List (Int × V)) (v : V) : V := targetD (valRow tbl v)
noncomputable def Tg : V → V
  | .list ds => targetD ds
  | _ => .none
noncomputable abbrev rowsD (H : List (Str × V × List V)) (T : List (List UInt8 × V × List V)) : List (List UInt8 × V) := dmerge (dmerge [] (rowsOf encB H)) (rowsOf id T)
theorem foldN {tbl : List (Int × V)} : ∀ {T : List (List UInt8 × V × List V)} {f : List (List UInt8 × V)}, (∀ h ∈ T, ValV tbl h.2.2 h.2.1) → (oldOf T).foldl (stepN (valR tbl)) f = dmerge f (mapV Tg (rowsOf id T))
  | [], f, _ => rfl
  | (b, v, ds) :: T, f, h => by
    show (oldOf T).foldl (stepN (valR tbl)) (dput f b (valR tbl v)) = dmerge (dput f b (targetD ds)) (mapV Tg (rowsOf id T))
    have e : valR tbl v = targetD ds := congrArg targetD (valRow_is (h _ (.head _)))
    rw [e, foldN fun p hp => h p (.tail _ hp)]
theorem foldO {old : List (Str × V)} {R : V → V} : ∀ {ks : List Str} {f : List (List UInt8 × V)}, ks.foldl (stepO old R) f = dmerge f (ks.map fun k => (encB k, R ((dl old k).getD .none)))
  | [], f => rfl
  | k :: ks, f => foldO (ks := ks) (f := dput f (encB k) (R ((dl old k).getD .none)))
theorem encB_inj {a b : Nat} (ha : a < 128) (hb : b < 128) (h : encB ⟨#[a]⟩ = encB ⟨#[b]⟩) : a = b := by
  have h : [((a : Int).toNat).toUInt8] = [((b : Int).toNat).toUInt8] := h
  simp only [List.cons.injEq, and_true, Int.toNat_natCast] at h
  have := congrArg UInt8.toNat h
  simp at this
  omega
theorem map_nodup {α β : Type} {f : α → β} : ∀ {l : List α}, l.Nodup → (∀ a ∈ l, ∀ b ∈ l, f a = f b → a = b) → (l.map f).Nodup
  | [], _, _ => List.nodup_nil
  | x :: l, nd, h => by
    rw [List.nodup_cons] at nd
    rw [List.map_cons, List.nodup_cons]
    refine ⟨fun q => ?_, map_nodup nd.2 fun a ha b hb => h a (.tail _ ha) b (.tail _ hb)⟩
    obtain ⟨y, hy, e⟩ := List.mem_map.mp q
    exact nd.1 (h y (.tail _ hy) x (.head _) e ▸ hy)
theorem NOut.enc {tl : List (Int × V)} {H : List (Str × V × List V)} {T : List (List UInt8 × V × List V)} (o : NOut tl H T) : ∀ a ∈ H.map (·.1), ∀ b ∈ H.map (·.1), encB a = encB b → a = b := fun a ha b hb e => by
  obtain ⟨p, hp, rfl⟩ := List.mem_map.mp ha
  obtain ⟨q, hq, rfl⟩ := List.mem_map.mp hb
  obtain ⟨x, hx, ex⟩ := o.kH p hp
  obtain ⟨y, hy, ey⟩ := o.kH q hq
  rw [ex, ey] at e ⊢
  rw [encB_inj hx hy e]
theorem rowsOf_keys {K : Type} {f : K → List UInt8} {H : List (K × V × List V)} : (rowsOf f H).map (·.1) = (H.map (·.1)).map f := by simp [rowsOf]
theorem NOut.ndO {tl : List (Int × V)} {H : List (Str × V × List V)} {T : List (List UInt8 × V × List V)} (o : NOut tl H T) : ((rowsOf encB H).map (·.1)).Nodup := by
  rw [rowsOf_keys]; exact map_nodup o.nH o.enc
theorem NOut.ndN {tl : List (Int × V)} {H : List (Str × V × List V)} {T : List (List UInt8 × V × List V)} (o : NOut tl H T) : ((rowsOf id T).map (·.1)).Nodup := by
  rw [rowsOf_keys, List.map_id]; exact o.nT
theorem heard_dl {tl tbl : List (Int × V)} {H : List (Str × V × List V)} {T : List (List UInt8 × V × List V)} (o : NOut tl H T) (hH : ∀ h ∈ H, ValV tbl h.2.2 h.2.1) (hT : ∀ h ∈ T, ValV tbl h.2.2 h.2.1) :
    (∀ x, dl (namedD (oldOf H) (oldOf T) (valR tbl)) x = (dl (rowsD H T) x).map Tg) ∧ ((namedD (oldOf H) (oldOf T) (valR tbl)).map (·.1)).Nodup ∧ ((rowsD H T).map (·.1)).Nodup := by
  have pm : (srt .s ((oldOf H).map (·.1))).Perm (H.map (·.1)) := by rw [oldOf_keys]; exact srt_perm .s _
  have ndk : ((srt .s ((oldOf H).map (·.1))).map encB).Nodup := map_nodup (pm.nodup_iff.mpr o.nH) fun a ha b hb e => o.enc a (pm.mem_iff.mp ha) b (pm.mem_iff.mp hb) e
  have ndOl : ((oldOf H).map (·.1)).Nodup := by rw [oldOf_keys]; exact o.nH
  have hE : namedD (oldOf H) (oldOf T) (valR tbl) = dmerge (dmerge [] ((srt .s ((oldOf H).map (·.1))).map fun k => (encB k, valR tbl ((dl (oldOf H) k).getD .none)))) (mapV Tg (rowsOf id T)) := by
    unfold namedD
    rw [foldN hT, foldO]
  generalize hO : ((srt .s ((oldOf H).map (·.1))).map fun k => (encB k, valR tbl ((dl (oldOf H) k).getD .none))) = O at hE
  have ndO : (O.map (·.1)).Nodup := by rw [← hO, List.map_map]; exact ndk
  have hmem : ∀ p, p ∈ O ↔ p ∈ mapV Tg (rowsOf encB H) := fun p => by
    have one : ∀ h ∈ H, valR tbl ((dl (oldOf H) h.1).getD .none) = targetD h.2.2 := fun h hh => by
      have : dl (oldOf H) h.1 = some h.2.1 := mem_dl ndOl (List.mem_map.mpr ⟨h, hh, rfl⟩)
      rw [this, Option.getD_some]
      exact congrArg targetD (valRow_is (hH h hh))
    rw [← hO]
    constructor
    · intro hp
      obtain ⟨k, hk, rfl⟩ := List.mem_map.mp hp
      obtain ⟨h, hh, rfl⟩ := List.mem_map.mp (pm.mem_iff.mp hk)
      rw [one h hh]
      exact List.mem_map.mpr ⟨(encB h.1, .list h.2.2), List.mem_map.mpr ⟨h, hh, rfl⟩, rfl⟩
    · intro hp
      obtain ⟨q, hq, rfl⟩ := List.mem_map.mp hp
      obtain ⟨h, hh, rfl⟩ := List.mem_map.mp hq
      exact List.mem_map.mpr ⟨h.1, pm.mem_iff.mpr (List.mem_map_of_mem hh), by rw [one h hh]; rfl⟩
  have n1 : ((mapV Tg (rowsOf id T)).map (·.1)).Nodup := by rw [mapV_keys]; exact o.ndN
  have n2 : ((mapV Tg (rowsOf encB H)).map (·.1)).Nodup := by rw [mapV_keys]; exact o.ndO
  refine ⟨fun x => ?_, ?_, ?_⟩
  · rw [hE, dl_dmerge n1, dl_dmerge o.ndN, dmerge_nd ndO, dmerge_nd o.ndO, dl_mapV, Option.map_or, dl_ext ndO n2 hmem x, dl_mapV]
  · rw [hE]; exact dmerge_nodup (dmerge_nodup (by simp))
  · exact dmerge_nodup (dmerge_nodup (by simp))
theorem rowsD_val {tl : List (Int × V)} {H : List (Str × V × List V)} {T : List (List UInt8 × V × List V)} (o : NOut tl H T) {x : List UInt8} {v : V} (h : dl (rowsD H T) x = some v) : ∃ ds, v = .list ds ∧ Row ds := by
  rw [dl_dmerge o.ndN, dmerge_nd o.ndO] at h
  rcases Option.or_eq_some_iff.mp h with h | ⟨_, h⟩
  · obtain ⟨p, hp, e⟩ := List.mem_map.mp (dl_mem h)
    cases e
    exact ⟨_, rfl, (o.hT p hp).1⟩
  · obtain ⟨p, hp, e⟩ := List.mem_map.mp (dl_mem h)
    cases e
    exact ⟨_, rfl, (o.hH p hp).1⟩
end Mine
end

section
open PySem PySem.W PyProof.Rows PySem.Calls PySem.Spec
set_option maxRecDepth 100000
namespace Mine
section
variable {c : Cx} {env : Env} {n : Nat} {Γ : Gm} {σ : St} {Φ : V → St → Prop} {Ψ : Fl → Gm → St → Prop}
theorem c_targetD {tbl : List (Int × V)} {tr : V} {ds : List V} (hr : Row ds) (p : Φ (targetD ds) σ) : FC c (n + 4) (.ref 559) [shelfV (.di tbl) tr, .list ds] σ Φ := by
  cases hr with
  | one hp => exact (c_target0 (n := n) (c := c) p).le (by omega)
  | more hp hn hz => exact c_target hp.pgV hn (by omega) p
/-- the tree of names, in the table behind its first row -/
noncomputable def NTr (tl : List (Int × V)) (q : Int) (kvs : List (List UInt8 × V)) : Prop :=
  (∃ es, dl tl q = some (.tup [.int 0, .ds es]) ∧ dl es (Str.ofString "Kids") = none ∧ dl es (Str.ofString "Names") = some (.list (flatV kvs))) ∨
  ∃ es k es2, dl tl q = some (.tup [.int 0, .ds es]) ∧ dl es (Str.ofString "Kids") = some (.list [refV k 0]) ∧ q ≠ k ∧ dl tl k = some (.tup [.int 0, .ds es2]) ∧ dl es2 (Str.ofString "Kids") = none ∧ dl es2 (Str.ofString "Names") = some (.list (flatV kvs))
theorem NTr.tree {w : World} {tl : List (Int × V)} (o : TlOk tl) {x : V} {q : Int} {kvs : List (List UInt8 × V)} (h : NTr tl q kvs) : NTree w (hdT x tl) q kvs := by
  rcases h with ⟨es, h1, h2, h3⟩ | ⟨es, k, es2, h1, h2, h3, h4, h5, h6⟩
  · exact .inl ⟨es, ⟨nr_dict, .inr ⟨_, _, rfl, o.dl h1⟩⟩, h2, h3⟩
  · exact .inr ⟨es, k, ⟨nr_dict, .inr ⟨_, _, rfl, o.dl h1⟩⟩, h2, h3, es2, ⟨nr_dict, .inr ⟨_, _, rfl, o.dl h4⟩⟩, h5, h6⟩
noncomputable abbrev trE : List (Str × V) := [(Str.ofString "Root", refV 1 0)]
/-- the shelf, as law has built it -/
structure Built (m : Nat) (root : List (Str × V)) (tl : List (Int × V)) (H : List (Str × V × List V)) (T : List (List UInt8 × V × List V)) : Prop where
  ok : TlOk tl
  no : NOut tl H T
  len : tl.length ≤ 30
  node : dl tl 2 = some (.tup [.int 0, .ds (nodeE m)])
  kid : ∀ j : Nat, j < m → dl tl (3 + j) = some (.tup [.int 0, .ds (pageE j)])
  small : m ≤ 3
  pg : dl root (Str.ofString "Pages") = some (refV 2 0)
  old : (H = [] ∧ dl root (Str.ofString "Dests") = none) ∨ dl root (Str.ofString "Dests") = some (.ds (oldOf H))
  nam : (T = [] ∧ dl root (Str.ofString "Names") = none) ∨ ∃ q, dl root (Str.ofString "Names") = some (.ds [(Str.ofString "Dests", refV q 0)]) ∧ NTr tl q (oldOf T)
  tree : Tree 4 (.ds root)
section
variable {m : Nat} {rt : List (Str × V)} {tl : List (Int × V)} {H : List (Str × V × List V)} {T : List (List UInt8 × V × List V)}
noncomputable abbrev tblF (rt : List (Str × V)) (tl : List (Int × V)) : List (Int × V) := hdT (.ds rt) tl
theorem Built.rootF {w : World} (b : Built m rt tl H T) : Fet w (tblF rt tl) ((dl trE (Str.ofString "Root")).getD .none) (.ds rt) := ⟨nr_dict, .inr ⟨1, 0, rfl, rfl⟩⟩
theorem Built.pages {w : World} (b : Built m rt tl H T) : Pg w (tblF rt tl) trE m := ⟨⟨rt, b.rootF, b.pg⟩, b.ok.dl b.node, fun j hj => b.ok.dl (b.kid j hj), b.small⟩
theorem Built.shok (b : Built m rt tl H T) : ShOk (tblF rt tl) := fun p hp => by
  rcases List.mem_cons.mp hp with rfl | hp
  · exact ⟨_, rfl, b.tree⟩
  · exact b.ok.sh p hp
theorem tr_tree : Tree 4 (.ds trE) := .dict _ (by simp) (by simp) (by simp) (fun p hp => by rw [List.mem_singleton.mp hp]; exact nofun) fun p hp => by rw [List.mem_singleton.mp hp]; exact .ref _ _
theorem Built.told (b : Built m rt tl H T) : ∃ xs, plainVs xs = true ∧ vdeps xs ≤ 100 ∧ ∀ {n : Nat} {σ : St} {Φ : V → St → Prop}, Φ (.tup xs) σ → FC c (n + 7) (.ref 360) [shelfV (.di (tblF rt tl)) (.ds trE)] σ Φ :=
  c_stold (by have := b.len; simp [tblF, hdT]; omega) b.shok tr_tree
noncomputable abbrev gotD (rt : List (Str × V)) (tl : List (Int × V)) (H : List (Str × V × List V)) (T : List (List UInt8 × V × List V)) : List (List UInt8 × V) := namedD (oldOf H) (oldOf T) (valR (tblF rt tl))
theorem Built.vH (b : Built m rt tl H T) : ∀ h ∈ H, ValV (tblF rt tl) h.2.2 h.2.1 := fun h hh => (b.no.hH h hh).2.hd b.ok
theorem Built.vT (b : Built m rt tl H T) : ∀ h ∈ T, ValV (tblF rt tl) h.2.2 h.2.1 := fun h hh => (b.no.hT h hh).2.hd b.ok
theorem Built.dest (b : Built m rt tl H T) {v : V} {ds : List V} (hr : Row ds) (hv : ValV (tblF rt tl) ds v) (p : Φ (valR (tblF rt tl) v) σ) : FC c (n + 5) (.ref 587) [shelfV (.di (tblF rt tl)) (.ds trE), v] σ Φ := by
  have e : valR (tblF rt tl) v = targetD ds := congrArg targetD (valRow_is hv)
  exact c_dest hv (r := targetD ds) (fun q => c_targetD hr q) (e ▸ p)
theorem Built.named (b : Built m rt tl H T) (p : Φ (.db (gotD rt tl H T)) σ) : FC c (n + 7) (.ref 597) [shelfV (.di (tblF rt tl)) (.ds trE)] σ Φ := by
  refine c_named (by rw [oldOf_len]; have := b.no.lH; omega) (by rw [oldOf_len]; have := b.no.lT; omega) (fun k hk => ?_) ?_ ?_ (fun q hq => ?_) (fun q hq => ?_) p
  · rw [oldOf_keys] at hk
    obtain ⟨h, hh, rfl⟩ := List.mem_map.mp hk
    obtain ⟨ch, h1, h2⟩ := b.no.kH h hh
    rw [h2]
    refine ⟨by simp, fun x hx => ?_⟩
    simp at hx
    omega
  · intro n σ Φ q
    rcases b.old with ⟨rfl, h⟩ | h
    · exact c_old_none b.rootF h q
    · exact c_old_some b.rootF h q
  · rcases b.nam with ⟨rfl, h⟩ | ⟨q, h, ht⟩
    · exact .inl ⟨fun {n} {σ} {Φ} q => c_names_none b.rootF h q, rfl⟩
    · exact .inr ⟨q, fun {n} {σ} {Φ} z => c_names_some b.rootF h z, ht.tree b.ok⟩
  · obtain ⟨h, hh, rfl⟩ := List.mem_map.mp hq
    exact fun {n} {σ} {Φ} z => b.dest (b.no.hH h hh).1 (b.vH h hh) z
  · obtain ⟨h, hh, rfl⟩ := List.mem_map.mp hq
    exact fun {n} {σ} {Φ} z => b.dest (b.no.hT h hh).1 (b.vT h hh) z
/-- is it a page of the document -/
noncomputable def isPg (m : Nat) : V → Bool
  | .inst C [(_, .int i), (_, .int g)] => C == 254 && g == 0 && decide (3 ≤ i) && decide (i < 3 + m)
  | _ => false
noncomputable def lostB (m : Nat) : V → Bool
  | .inst _ [(_, pg), _, _] => !isPg m pg
  | _ => true
theorem Built.vals (b : Built m rt tl H T) {x : List UInt8} {v : V} (h : dl (rowsD H T) x = some v) : ∃ ds, v = .list ds ∧ Row ds ∧ dl (gotD rt tl H T) x = some (targetD ds) := by
  obtain ⟨ds, rfl, hr⟩ := rowsD_val b.no h
  exact ⟨ds, rfl, hr, by rw [(heard_dl b.no b.vH b.vT).1 x, h]; rfl⟩
theorem Built.val' (b : Built m rt tl H T) {q : List UInt8 × V} (hq : q ∈ gotD rt tl H T) : ∃ ds, q.2 = targetD ds ∧ Row ds := by
  obtain ⟨h1, h2, h3⟩ := heard_dl b.no b.vH b.vT
  have e := h1 q.1
  rw [mem_dl h2 (x := q.1) (v := q.2) hq] at e
  cases e2 : dl (rowsD H T) q.1 with
  | none => rw [e2] at e; cases e
  | some v =>
    obtain ⟨ds, rfl, hr⟩ := rowsD_val b.no e2
    rw [e2] at e
    exact ⟨ds, Option.some.inj e, hr⟩
theorem Built.lenG (b : Built m rt tl H T) : (rowsD H T).length ≤ 8 ∧ (gotD rt tl H T).length = (rowsD H T).length := by
  obtain ⟨h1, h2, h3⟩ := heard_dl b.no b.vH b.vT
  have hp := (keys_perm h2 h3 h1).length_eq
  rw [List.length_map, List.length_map] at hp
  refine ⟨?_, hp⟩
  have e1 : (rowsD H T).length ≤ _ := dmerge_len (l := rowsOf id T) (f := dmerge [] (rowsOf encB H))
  have e2 := dmerge_len (l := rowsOf encB H) (f := [])
  rw [rowsOf_len] at e1 e2
  have h5 := b.no.lH
  have h6 := b.no.lT
  rw [List.length_nil] at e2
  omega
theorem Built.srt (b : Built m rt tl H T) : srt .b ((gotD rt tl H T).map (·.1)) = Mine.srt .b ((rowsD H T).map (·.1)) := by
  obtain ⟨h1, h2, h3⟩ := heard_dl b.no b.vH b.vT
  exact srt_congr (k := .b) (keys_perm h2 h3 h1)
theorem Built.broken (b : Built m rt tl H T) (p : Φ (.list (lostD (gotD rt tl H T) (lostB m))) σ) : FC c (n + 9) (.ref 604) [shelfV (.di (tblF rt tl)) (.ds trE)] σ Φ := by
  refine c_broken (by have := b.lenG; omega) (fun {n} {σ} {Φ} q => b.named q) (fun q hq => ?_) p
  obtain ⟨ds, e, hr⟩ := b.val' hq
  rw [e]
  cases hr with
  | one hp => exact .inl ⟨rfl, rfl⟩
  | @more pg vw nums hp hn hz =>
    rcases targetR_or pg vw nums with e | ⟨k, hk, h1, h2, h3, e⟩
    · exact .inl ⟨e, by show lostB m (targetR pg vw nums) = true; rw [e]; rfl⟩
    · right
      show vis (targetR pg vw nums) .none = some false ∧ ∃ i : Int, lostB m (targetR pg vw nums) = decide (i < 0) ∧ ∀ {n : Nat} {σ : St} {Φ : V → St → Prop}, Φ (.int i) σ → FC c (n + 8) (.ref 592) [_, targetR pg vw nums] σ Φ
      rw [e]
      refine ⟨rfl, ?_⟩
      cases hp with
      | ref i g =>
        refine ⟨_, ?_, fun {n} {σ} {Φ} q => c_pix2 b.pages q⟩
        show (!isPg m (refV i g)) = _
        simp only [isPg]
        by_cases hh : g = 0 ∧ 3 ≤ i ∧ i < 3 + m
        · rw [if_pos hh, decide_eq_false (show ¬ i - 3 < 0 by omega), decide_eq_true hh.2.1, decide_eq_true hh.2.2, hh.1]; rfl
        · rw [if_neg hh, decide_eq_true (show (-1 : Int) < 0 by omega), Bool.not_eq_true', Bool.eq_false_iff]
          intro z
          simp at z
          exact hh ⟨z.1.1, z.1.2, z.2⟩
      | int i hi => exact ⟨-1, rfl, fun {n} {σ} {Φ} q => (c_pix1 (n := n) nr_int q).le (by omega)⟩
      | name t => cases h1
end
end
end Mine
end

section
open PySem PySem.W PyProof.Rows PySem.Calls PySem.Spec
set_option maxRecDepth 100000
namespace Mine
section
variable {c : Cx} {env : Env} {n : Nat} {Γ : Gm} {σ : St} {Φ : V → St → Prop} {Ψ : Fl → Gm → St → Prop}
noncomputable def tlK (m : Nat) : List (Int × V) := (2, .tup [.int 0, .ds (nodeE m)]) :: (pgsK m ++ [(9, .tup [.int 0, .ds oneE])])
theorem node_tree {m : Nat} (hm : 1 ≤ m) (hm3 : m ≤ 3) : Tree 4 (.ds (nodeE m)) := by
  refine .dict _ (by simp [nodeE]) (by simp [nodeE]) (by show List.Nodup [Str.ofString "Type", Str.ofString "Kids", Str.ofString "Count"]; decide +kernel) (fun p hp => ?_) fun p hp => ?_
  · simp only [nodeE, List.mem_cons, List.mem_nil_iff, or_false] at hp
    rcases hp with rfl | rfl | rfl <;> exact nofun
  · simp only [nodeE, List.mem_cons, List.mem_nil_iff, or_false] at hp
    rcases hp with rfl | rfl | rfl
    · exact .name _
    · refine .list _ (by simp [kidsV]; omega) (by simp [kidsV]; omega) fun d hd => ?_
      obtain ⟨j, _, rfl⟩ := List.mem_map.mp hd
      exact .ref _ _
    · exact .int _
theorem page_tree {j : Nat} : Tree 4 (.ds (pageE j)) := by
  refine .dict _ (by simp [pageE]) (by simp [pageE]) (by show List.Nodup [Str.ofString "Type", Str.ofString "Parent", Str.ofString "Mark"]; decide +kernel) (fun p hp => ?_) fun p hp => ?_
  · simp only [pageE, List.mem_cons, List.mem_nil_iff, or_false] at hp
    rcases hp with rfl | rfl | rfl <;> exact nofun
  · simp only [pageE, List.mem_cons, List.mem_nil_iff, or_false] at hp
    rcases hp with rfl | rfl | rfl
    · exact .name _
    · exact .ref _ _
    · exact .int _
theorem one_tree : Tree 4 (.ds oneE) := by
  refine .dict _ (by simp [oneE]) (by simp [oneE]) (by show List.Nodup [Str.ofString "Type"]; decide +kernel) (fun p hp => ?_) fun p hp => ?_
  · rw [List.mem_singleton.mp hp]; exact nofun
  · rw [List.mem_singleton.mp hp]; exact .name _
theorem tlK_ok {m : Nat} (hm : 1 ≤ m) (hm3 : m ≤ 3) : TlOk (tlK m) := by
  refine ⟨?_, fun p hp => ?_⟩
  · have : m = 1 ∨ m = 2 ∨ m = 3 := by omega
    rcases this with rfl | rfl | rfl
    · show List.Nodup [(1 : Int), 2, 3, 9]; decide
    · show List.Nodup [(1 : Int), 2, 3, 4, 9]; decide
    · show List.Nodup [(1 : Int), 2, 3, 4, 5, 9]; decide
  · rcases List.mem_cons.mp hp with rfl | hp
    · exact ⟨_, rfl, node_tree hm hm3⟩
    · rcases List.mem_append.mp hp with hp | hp
      · obtain ⟨j, _, rfl⟩ := List.mem_map.mp hp
        exact ⟨_, rfl, page_tree⟩
      · rw [List.mem_singleton.mp hp]; exact ⟨_, rfl, one_tree⟩
theorem tlK_kid {m : Nat} (hm : 1 ≤ m) (hm3 : m ≤ 3) {j : Nat} (hj : j < m) : dl (tlK m) (3 + j) = some (.tup [.int 0, .ds (pageE j)]) := by
  refine mem_dl (List.nodup_cons.mp (tlK_ok hm hm3).nd).2 ?_
  exact .tail _ (List.mem_append_left _ (List.mem_map.mpr ⟨j, List.mem_range.mpr hj, rfl⟩))
theorem tlK_len {m : Nat} : (tlK m).length = m + 2 := by simp [tlK, pgsK]
noncomputable def rootO : List (Str × V × List V) → List (Str × V)
  | [] => rootE
  | h :: H => rootE ++ [(Str.ofString "Dests", .ds (oldOf (h :: H)))]
theorem NOut.grow {tl tl' : List (Int × V)} {H : List (Str × V × List V)} {T : List (List UInt8 × V × List V)} (o : NOut tl H T) (g : Grow tl tl') : NOut tl' H T := ⟨o.hH.grow g, o.hT.grow g, o.nH, o.nT, o.kH, o.lH, o.lT⟩
theorem old_tree {tl : List (Int × V)} {H : List (Str × V × List V)} {T : List (List UInt8 × V × List V)} (o : NOut tl H T) (hne : H ≠ []) : Tree 3 (.ds (oldOf H)) := by
  refine .dict _ (by rw [oldOf_len]; have := o.lH; omega) (by simpa [oldOf] using hne) (by rw [oldOf_keys]; exact o.nH) (fun p hp => ?_) fun p hp => ?_
  · obtain ⟨h, hh, rfl⟩ := List.mem_map.mp hp
    exact ((o.hH h hh).2.tree (m := 0) (o.hH h hh).1).2
  · obtain ⟨h, hh, rfl⟩ := List.mem_map.mp hp
    exact ((o.hH h hh).2.tree (m := 0) (o.hH h hh).1).1
noncomputable abbrev namE (q : Int) : List (Str × V) := [(Str.ofString "Names", .ds [(Str.ofString "Dests", refV q 0)])]
theorem nam_tree {q : Int} : Tree 3 (.ds [(Str.ofString "Dests", refV q 0)]) := .dict _ (by simp) (by simp) (by simp) (fun p hp => by rw [List.mem_singleton.mp hp]; exact nofun) fun p hp => by rw [List.mem_singleton.mp hp]; exact .ref _ _
theorem root_tree {es : List (Str × V)} (h1 : es.length ≤ 20) (h2 : es ≠ []) (h3 : (es.map (·.1)).Nodup) (h : ∀ p ∈ es, Tree 3 p.2 ∧ p.2 ≠ .none) : Tree 4 (.ds es) := .dict _ h1 h2 h3 (fun p hp => (h p hp).2) fun p hp => (h p hp).1
theorem built {m : Nat} {tl : List (Int × V)} {H : List (Str × V × List V)} {T : List (List UInt8 × V × List V)} {nm : List (Str × V)} (ok : TlOk tl) (no : NOut tl H T) (len : tl.length ≤ 30) (gr : Grow (tlK m) tl) (hm : 1 ≤ m) (hm3 : m ≤ 3)
    (h : (T = [] ∧ nm = []) ∨ ∃ q, nm = namE q ∧ NTr tl q (oldOf T)) : Built m (rootO H ++ nm) tl H T := by
  refine ⟨ok, no, len, gr _ _ rfl, fun j hj => gr _ _ (tlK_kid hm hm3 hj), hm3, ?_, ?_, ?_, ?_⟩
  · cases H with
    | nil => rcases h with ⟨_, rfl⟩ | ⟨q, rfl, _⟩ <;> rfl
    | cons h' H => rcases h with ⟨_, rfl⟩ | ⟨q, rfl, _⟩ <;> rfl
  · cases H with
    | nil => rcases h with ⟨_, rfl⟩ | ⟨q, rfl, _⟩ <;> exact .inl ⟨rfl, rfl⟩
    | cons h' H => rcases h with ⟨_, rfl⟩ | ⟨q, rfl, _⟩ <;> exact .inr rfl
  · rcases h with ⟨h1, rfl⟩ | ⟨q, rfl, h2⟩
    · cases H <;> exact .inl ⟨h1, rfl⟩
    · cases H <;> exact .inr ⟨q, rfl, h2⟩
  · cases H with
    | nil =>
      rcases h with ⟨_, rfl⟩ | ⟨q, rfl, _⟩
      · refine root_tree (by simp [rootO, rootE]) (by simp [rootO, rootE]) (by show List.Nodup [Str.ofString "Type", Str.ofString "Pages"]; decide +kernel) fun p hp => ?_
        simp only [rootO, rootE, List.append_nil, List.mem_cons, List.mem_nil_iff, or_false] at hp
        rcases hp with rfl | rfl
        · exact ⟨.name _, nofun⟩
        · exact ⟨.ref _ _, nofun⟩
      · refine root_tree (by simp [rootO, rootE]) (by simp [rootO, rootE]) (by show List.Nodup [Str.ofString "Type", Str.ofString "Pages", Str.ofString "Names"]; decide +kernel) fun p hp => ?_
        simp only [rootO, rootE, List.cons_append, List.nil_append, List.mem_cons, List.mem_nil_iff, or_false] at hp
        rcases hp with rfl | rfl | rfl
        · exact ⟨.name _, nofun⟩
        · exact ⟨.ref _ _, nofun⟩
        · exact ⟨nam_tree, nofun⟩
    | cons h' H =>
      have ho := old_tree no (by simp)
      rcases h with ⟨_, rfl⟩ | ⟨q, rfl, _⟩
      · refine root_tree (by simp [rootO, rootE]) (by simp [rootO, rootE]) (by show List.Nodup [Str.ofString "Type", Str.ofString "Pages", Str.ofString "Dests"]; decide +kernel) fun p hp => ?_
        simp only [rootO, rootE, List.append_nil, List.cons_append, List.nil_append, List.mem_cons, List.mem_nil_iff, or_false] at hp
        rcases hp with rfl | rfl | rfl
        · exact ⟨.name _, nofun⟩
        · exact ⟨.ref _ _, nofun⟩
        · exact ⟨ho, nofun⟩
      · refine root_tree (by simp [rootO, rootE]) (by simp [rootO, rootE]) (by show List.Nodup [Str.ofString "Type", Str.ofString "Pages", Str.ofString "Dests", Str.ofString "Names"]; decide +kernel) fun p hp => ?_
        simp only [rootO, rootE, List.cons_append, List.nil_append, List.mem_cons, List.mem_nil_iff, or_false] at hp
        rcases hp with rfl | rfl | rfl | rfl
        · exact ⟨.name _, nofun⟩
        · exact ⟨.ref _ _, nofun⟩
        · exact ⟨ho, nofun⟩
        · exact ⟨nam_tree, nofun⟩
theorem c_addN {a r t : Addr} {R pen : MO} {rest : St} {tr v : V} {tl : List (Int × V)} (hz : tl.length ≤ 90)
    (p : ∀ k : Int, (1 : Int) ≠ k → dl tl k = none → Φ (refV k 0) ((a, pen) :: (r, R) :: (t, .dict .i (hdT (.cell r) (tl ++ [(k, .tup [.int 0, v])]))) :: rest)) :
    FC c (n + 3) (.ref 334) [shelfV (.cell t) tr, v] ((a, pen) :: (r, R) :: (t, .dict .i (hdT (.cell r) tl)) :: rest) Φ := by
  refine c_add 2 rfl (by simp [hdT]; omega) fun k h1 h2 => ?_
  obtain ⟨h3, h4, h5⟩ := add_new (v := .tup [.int 0, v]) h2
  have e := p k h3 h4
  rw [← h5] at e
  exact e
/-- the leaf of the names, and its limits -/
theorem flat_tree {tl : List (Int × V)} {H : List (Str × V × List V)} {T : List (List UInt8 × V × List V)} (o : NOut tl H T) (hne : T ≠ []) : Tree 3 (.list (flatV (oldOf T))) := by
  refine .list _ (by rw [flatV_len, oldOf_len]; have := o.lT; omega) (fun e => ?_) fun d hd => ?_
  · have := congrArg List.length e
    rw [flatV_len, oldOf_len] at this
    rw [List.length_nil] at this
    exact hne (List.length_eq_zero_iff.mp (by omega))
  · obtain ⟨q, hq, hd⟩ := List.mem_flatMap.mp hd
    obtain ⟨h, hh, rfl⟩ := List.mem_map.mp hq
    simp only [List.mem_cons, List.mem_nil_iff, or_false] at hd
    rcases hd with rfl | rfl
    · exact .string _
    · exact ((o.hT h hh).2.tree (m := 0) (o.hT h hh).1).1
theorem leaf_tree {tl : List (Int × V)} {H : List (Str × V × List V)} {T : List (List UInt8 × V × List V)} (o : NOut tl H T) (hne : T ≠ []) : Tree 4 (.ds [(Str.ofString "Names", .list (flatV (oldOf T)))]) :=
  root_tree (by simp) (by simp) (by simp) fun p hp => by rw [List.mem_singleton.mp hp]; exact ⟨flat_tree o hne, nofun⟩
theorem leaf2_tree {tl : List (Int × V)} {H : List (Str × V × List V)} {T : List (List UInt8 × V × List V)} {b1 b2 : List UInt8} (o : NOut tl H T) (hne : T ≠ []) : Tree 4 (.ds [(Str.ofString "Names", .list (flatV (oldOf T))), (Str.ofString "Limits", .list [stringV b1, stringV b2])]) :=
  root_tree (by simp) (by simp) (by show List.Nodup [Str.ofString "Names", Str.ofString "Limits"]; decide +kernel) fun p hp => by
    simp only [List.mem_cons, List.mem_nil_iff, or_false] at hp
    rcases hp with rfl | rfl
    · exact ⟨flat_tree o hne, nofun⟩
    · refine ⟨.list _ (by simp) (by simp) fun d hd => ?_, nofun⟩
      simp only [List.mem_cons, List.mem_nil_iff, or_false] at hd
      rcases hd with rfl | rfl <;> exact .string _
theorem kids_tree {k : Int} : Tree 4 (.ds [(Str.ofString "Kids", .list [refV k 0])]) :=
  root_tree (by simp) (by simp) (by simp) fun p hp => by
    rw [List.mem_singleton.mp hp]
    exact ⟨.list _ (by simp) (by simp) fun d hd => by rw [List.mem_singleton.mp hd]; exact .ref _ _, nofun⟩
theorem flat_ends {T : List (List UInt8 × V × List V)} (hne : T ≠ []) : ∃ b1 b2, (flatV (oldOf T))[0]? = some (stringV b1) ∧ (flatV (oldOf T))[((-2 : Int) + (flatV (oldOf T)).length).toNat]? = some (stringV b2) := by
  have hl : 1 ≤ (oldOf T).length := by
    rw [oldOf_len]
    cases T with
    | nil => exact absurd rfl hne
    | cons _ _ => simp
  have h0 : (oldOf T)[0]? = some (oldOf T)[0] := List.getElem?_eq_getElem (by omega)
  have h1 : (oldOf T)[(oldOf T).length - 1]? = some (oldOf T)[(oldOf T).length - 1] := List.getElem?_eq_getElem (by omega)
  have e : ((-2 : Int) + (flatV (oldOf T)).length).toNat = 2 * ((oldOf T).length - 1) := by rw [flatV_len]; omega
  have h2 := (flatV_at _ _ _ h1).1
  rw [← e] at h2
  exact ⟨_, _, (flatV_at _ 0 _ h0).1, h2⟩
theorem flat_eq {T : List (List UInt8 × V × List V)} : veqs (flatV (oldOf T)) [] = some T.isEmpty := by
  cases T with
  | nil => rfl
  | cons _ _ => rfl
theorem row_dep {ds : List V} (h : Row ds) : vdeps ds ≤ 0 := vdeps_all fun d hd => by
  cases h with
  | one hp => rw [List.mem_singleton.mp hd]; cases hp <;> simp [vdep]
  | more hp hn hz =>
    rcases List.mem_cons.mp hd with rfl | hd
    · cases hp <;> simp [vdep]
    · rcases List.mem_cons.mp hd with rfl | hd
      · simp [vdep]
      · cases hn d hd <;> simp [vdep]
theorem flat_dep {tl : List (Int × V)} {T : List (List UInt8 × V × List V)} (o : HOk tl T) : vdeps (flatV (oldOf T)) ≤ 500 := by
  refine Nat.le_trans (vdeps_all (b := 1) fun d hd => ?_) (by omega)
  obtain ⟨q, hq, hd⟩ := List.mem_flatMap.mp hd
  obtain ⟨h, hh, rfl⟩ := List.mem_map.mp hq
  simp only [List.mem_cons, List.mem_nil_iff, or_false] at hd
  rcases hd with rfl | rfl
  · simp [vdep]
  · have := row_dep (o h hh).1
    rcases (o h hh).2 with e | e | ⟨i, j, e, _⟩ <;> rw [e] <;> simp [vdep]
    omega
end
end Mine
end

section
open PySem PySem.W PyProof.Rows PySem.Calls PySem.Spec
set_option maxRecDepth 100000
namespace Mine
section
variable {c : Cx} {env : Env} {n : Nat} {Γ : Gm} {σ : St} {Φ : V → St → Prop} {Ψ : Fl → Gm → St → Prop}
theorem row_page {ds : List V} (hr : Row ds) : ∃ pg, ds[0]? = some pg ∧ RPg pg ∧ (targetD ds = .none ∨ ∃ vw nums, (∀ d ∈ nums, Tree 0 d) ∧ targetD ds = targetV pg (.str vw) (.list nums)) := by
  cases hr with
  | one hp => exact ⟨_, rfl, hp, .inl rfl⟩
  | @more pg vw nums hp hn hz =>
    refine ⟨_, rfl, hp, ?_⟩
    rcases targetR_or pg vw nums with e | ⟨k, hk, h1, h2, h3, e⟩
    · exact .inl e
    · exact .inr ⟨vw, _, pad_tree hn, e⟩
theorem p2_neH {ds : List V} (hr : Row ds) (p : Φ (.bool false) σ) : P2 c n (heardR (targetD ds)) (heardR (targetD ds)) σ (compareOp .NotEq) Φ := by
  obtain ⟨pg, _, hp, e | ⟨vw, nums, hn, e⟩⟩ := row_page hr
  · rw [e]; exact p2_neN p
  · rw [e]
    have h1 := toldF_is (d := pg) hp.tree
    have h2 : ∀ d ∈ nums.map toldF, plainV d = true ∧ vdep d ≤ 1 := fun d hd => by
      obtain ⟨x, hx, rfl⟩ := List.mem_map.mp hd
      have := toldF_is (hn x hx)
      exact ⟨this.1, this.2.1⟩
    refine p2_neT (b := true) (veqs_refl _ ?_) ?_ p
    · simp only [plainVs, plainV, h1.1, plainVs_all fun d hd => (h2 d hd).1, Bool.and_self]
    · have h3 := vdeps_all fun d hd => (h2 d hd).2
      have h4 := h1.2.1
      simp only [vdeps, vdep]; omega
set_option maxHeartbeats 1000000 in
theorem c_law {ns : List Int} (hz : ns.length ≤ 1000) : FC c (n + 12) (.ref 664) [.list (ns.map V.int)] [] (fun d σ' => d = .bool true) := by
  refine' fc_def ?ho ?hcd [Str.ofString "script"] ?hb ?hl ?hx ?hkd ?hnd ?_ ?h1 ?h2 ?h3
  case ho => k_is
  case hcd => k_is
  case hl => rfl
  case hx => decide +kernel
  case hkd => kernel_rfl!
  case hnd => decide +kernel
  case h1 => rfl
  case h2 => rfl
  case h3 => rfl
  case hb =>
    intro s vs X hv
    obtain ⟨u0, rfl⟩ := len1 hv
    first | exact BindsTo.of_eq rfl | exact kp_binds (K := HpK c.w.params) X (fun S => by kernel_rfl!)
  intro L
  refine xs_cons (x_assign (ev_call (by k_is) (by kernel_rfl!) (by k_is) (lv_cons (ev_var rfl (lv_nil (FC.cv (c_pen hz fun x a => ?_)))))) (by kernel_rfl!))
  refine xs_cons (x_assignT (ev_call (by k_is) (by kernel_rfl!) (by k_is) (lv_cons (ev_var rfl (lv_nil (FC.cv (c_shelf 0 rfl (by omega) fun x1 r t m hm hm3 => ?_)))))))
  refine ⟨_, av_tuple rfl rfl (.cons (av_name (by kernel_rfl!)) (.cons (av_name (by kernel_rfl!)) .nil)), ?_⟩
  refine xs_cons (x_assign (ev_dict0C .b fun w => ?_) (by kernel_rfl!))
  refine xs_cons (x_assignT (ev_call (by k_is) (by kernel_rfl!) (by k_is) (lv_cons (ev_var rfl (lv_cons (ev_var rfl (lv_cons (ev_var rfl ?_))))))))
  have ni : NI (tlK m) (tlK m) (0 + 1) 8 := ⟨by omega, by omega, tlK_ok hm hm3, .refl, by rw [tlK_len]; omega⟩
  refine lv_nil (FC.cv (c_names (a := a) (r := r) (t := t) (w := w) (R := .dict .s rootE) ni fun x2 y2 tl H T hni hno => ?_))
  refine ⟨_, av_tuple rfl rfl (.cons (av_name (by kernel_rfl!)) (.cons (av_name (by kernel_rfl!)) .nil)), ?_⟩
  have hy0 := hni.y0
  have hy1 := hni.y1
  have htl := hni.len
  refine xs_cons (x_assign (ev_sub (ev_sub (ev_va rfl rfl (by k_is) (by k_is) (by k_is) (by k_is) ?_))) (by kernel_rfl!))
  refine ev_int (p2_dget .i (x := (1 : Int)) (IsD.at_ 2 rfl) rfl rfl (ev_int (p2_titem (e := .cell r) (by decide) (by decide) rfl ?_)))
  -- the old dict
  refine xs_cons (XV.mono (Ψ := fun f Γ' σ' => f = .next ∧ Has Γ' [(Str.ofString "pen", .cell a), (Str.ofString "shelf", shelfV (.cell t) (.ds trE)), (Str.ofString "count", .int m), (Str.ofString "rows", .cell w), (Str.ofString "flat", .list (flatV (oldOf T))), (Str.ofString "root", .cell r)] ∧ σ' = [(a, .list [.int x2, .int y2]), (r, .dict .s (rootO H)), (t, .dict .i (hdT (.cell r) tl)), (w, .dict .b (rowsD H T))]) ?_ ?_)
  · refine x_if (tv_cmp (ev_var rfl (ev_dict0 .s (p2_neD .s IsD.frS IsD.frS ⟨_, rfl, ?_⟩))))
    cases H with
    | nil => exact xs_nil ⟨rfl, ⟨rfl, rfl, rfl, rfl, rfl, rfl, trivial⟩, rfl⟩
    | cons h H =>
      refine xs_cons (x_setitem (ev_var rfl (ev_var rfl (ev_str (s3_dict .s 1 rfl rfl (by simp [rootE]) ?_)))))
      refine xs_nil ⟨rfl, ⟨rfl, rfl, rfl, rfl, rfl, rfl, trivial⟩, ?_⟩
      rw [dput_new (by show _ ∉ [Str.ofString "Type", Str.ofString "Pages"]; decide +kernel)]
      rfl
  rintro f Γ' σ' ⟨rfl, hΓ, rfl⟩
  refine xs_weak hΓ ?_
  clear hΓ
  -- the tree of names
  refine xs_cons (XV.mono (Ψ := fun f Γ' σ' => f = .next ∧ Has Γ' [(Str.ofString "shelf", shelfV (.cell t) (.ds trE)), (Str.ofString "count", .int m), (Str.ofString "rows", .cell w)] ∧ ∃ x y tl' rt, Built m rt tl' H T ∧ σ' = [(a, .list [.int x, .int y]), (r, .dict .s rt), (t, .dict .i (hdT (.cell r) tl')), (w, .dict .b (rowsD H T))]) ?_ ?_)
  · refine x_if (tv_cmp (ev_var rfl (ev_list (lv_nil ⟨?_, p2_neL IsLs.fr IsLs.fr flat_eq (flat_dep hno.hT) ⟨_, rfl, ?_⟩⟩))))
    · rw [sizeLine_eq]; simp
    cases hTe : T.isEmpty with
    | true =>
      have hT : T = [] := by simpa using hTe
      subst hT
      refine xs_nil ⟨rfl, ⟨rfl, rfl, rfl, trivial⟩, x2, y2, tl, rootO H ++ [], built hni.ok hno (by omega) hni.gr hm hm3 (.inl ⟨rfl, rfl⟩), by rw [List.append_nil]⟩
    | false =>
      have hT : T ≠ [] := by rintro rfl; cases hTe
      obtain ⟨b1, b2, hb1, hb2⟩ := flat_ends hT
      have hfl : 2 ≤ (flatV (oldOf T)).length := by
        rw [flatV_len, oldOf_len]
        cases T with
        | nil => exact absurd rfl hT
        | cons _ _ => rw [List.length_cons]; omega
      refine xs_cons (x_assign (ev_dict .s (pv_cons (ev_str ⟨_, rfl, ev_var rfl (pv_nil ?_)⟩))) (by kernel_rfl!))
      rw [dmerge_ks [Str.ofString "Names"] rfl (by decide +kernel)]
      refine xs_cons (XV.mono (Ψ := fun f Γ' σ' => f = .next ∧ ∃ nd x y tl2, Has Γ' [(Str.ofString "shelf", shelfV (.cell t) (.ds trE)), (Str.ofString "count", .int m), (Str.ofString "rows", .cell w), (Str.ofString "root", .cell r), (Str.ofString "node", nd)] ∧ TlOk tl2 ∧ Grow tl tl2 ∧ tl2.length ≤ tl.length + 1 ∧ Tree 4 nd ∧
        (∀ q tl3, Grow tl2 tl3 → (∀ i y, dl tl2 i = some y → i ≠ q) → dl tl3 q = some (.tup [.int 0, nd]) → NTr tl3 q (oldOf T)) ∧ σ' = [(a, .list [.int x, .int y]), (r, .dict .s (rootO H)), (t, .dict .i (hdT (.cell r) tl2)), (w, .dict .b (rowsD H T))]) (x_if (tv_cmp (ev_call (by k_is) (by kernel_rfl!) (by k_is) (lv_cons (ev_var rfl (lv_cons (ev_int (lv_nil ?_)))))))) ?_)
      · refine FC.cv (c_draw 0 rfl (by omega) (by omega) (by omega) fun d x3 a3 b3 => ev_int (p2_eqi ⟨_, rfl, ?_⟩))
        cases d == 0 with
        | false => exact xs_nil ⟨rfl, _, x3, y2 + 1, tl, ⟨rfl, rfl, rfl, rfl, rfl, trivial⟩, hni.ok, .refl, by omega, leaf_tree hno hT, fun q tl3 _ _ h => .inl ⟨_, h, rfl, rfl⟩, rfl⟩
        | true =>
          refine xs_cons (x_assign (ev_dict .s (pv_cons (ev_str ⟨_, rfl, ev_list (lv_cons (ev_sh (f := 334) rfl rfl (by k_is) (by k_is) (by k_is) (by k_is) (lv_cons ?_)))⟩))) (by kernel_rfl!))
          refine ev_dict .s (pv_cons (ev_str ⟨_, rfl, ev_var rfl (pv_cons (ev_str ⟨_, rfl, ev_list (lv_cons ?_)⟩))⟩))
          refine ev_sub (ev_var rfl (ev_int (p2_litem (e := stringV b1) IsLs.fr (by omega) (by omega) hb1 (lv_cons (ev_sub (ev_var rfl (ev_unop (ev_int (p1_neg ?_)))))))))
          refine p2_lneg (e := stringV b2) IsLs.fr (by omega) (by omega) (by omega) hb2 (lv_nil ⟨?_, pv_nil ?_⟩)
          · rw [sizeLine_eq]; simp
          rw [dmerge_ks [Str.ofString "Names", Str.ofString "Limits"] rfl (by decide +kernel)]
          refine lv_nil (FC.cv (c_addN (by omega) fun k h1 h2 => lv_nil ⟨?_, pv_nil ?_⟩))
          · rw [sizeLine_eq]; simp
          rw [dmerge_ks [Str.ofString "Kids"] rfl (by decide +kernel)]
          refine xs_nil ⟨rfl, _, x3, y2 + 1, tl ++ [(k, .tup [.int 0, .ds [(Str.ofString "Names", .list (flatV (oldOf T))), (Str.ofString "Limits", .list [stringV b1, stringV b2])]])], ⟨rfl, rfl, rfl, rfl, rfl, trivial⟩, hni.ok.add h1 h2 (leaf2_tree hno hT), .app, by simp, kids_tree, fun q tl3 g hne h => ?_, rfl⟩
          have hk : dl (tl ++ [(k, V.tup [.int 0, .ds [(Str.ofString "Names", .list (flatV (oldOf T))), (Str.ofString "Limits", .list [stringV b1, stringV b2])]])]) k = some (.tup [.int 0, .ds [(Str.ofString "Names", .list (flatV (oldOf T))), (Str.ofString "Limits", .list [stringV b1, stringV b2])]]) := by
            rw [dl_app, h2]; simp [dl]
          exact .inr ⟨_, k, _, h, rfl, (hne k _ hk).symm, g _ _ hk, rfl, rfl⟩
      rintro f Γ' σ' ⟨rfl, nd, x3, y3, tl2, hΓ, ok2, gr2, len2, ht2, hntr, rfl⟩
      refine xs_weak hΓ ?_
      clear hΓ
      refine xs_cons (x_setitem (ev_dict .s (pv_cons (ev_str ⟨_, rfl, ev_sh (f := 334) rfl rfl (by k_is) (by k_is) (by k_is) (by k_is) (lv_cons (ev_var rfl (lv_nil ?_)))⟩))))
      refine FC.cv (c_addN (by omega) fun k h1 h2 => pv_nil ?_)
      rw [dmerge_ks [Str.ofString "Dests"] rfl (by decide +kernel)]
      refine ev_var rfl (ev_str (s3_dict .s 1 rfl rfl (by cases H <;> simp [rootO, rootE]) ?_))
      rw [dput_new (by
        cases H with
        | nil => show _ ∉ [Str.ofString "Type", Str.ofString "Pages"]; decide +kernel
        | cons h H => show _ ∉ [Str.ofString "Type", Str.ofString "Pages", Str.ofString "Dests"]; decide +kernel)]
      have hk : dl (tl2 ++ [(k, V.tup [.int 0, nd])]) k = some (.tup [.int 0, nd]) := by
        rw [dl_app, h2]; simp [dl]
      have hq : ∀ i y, dl tl2 i = some y → i ≠ k := fun i y hi e => by
        subst e; rw [h2] at hi; cases hi
      exact xs_nil ⟨rfl, ⟨rfl, rfl, rfl, trivial⟩, x3, y3, tl2 ++ [(k, .tup [.int 0, nd])], rootO H ++ namE k, built (ok2.add h1 h2 ht2) ((hno.grow gr2).grow .app) (by simp; omega) ((hni.gr.trans gr2).trans .app) hm hm3 (.inr ⟨k, rfl, hntr k _ .app hq hk⟩), rfl⟩
  rintro f Γ' σ' ⟨rfl, hΓ, x, y, tl', rt, bt, rfl⟩
  refine xs_weak hΓ ?_
  clear hΓ
  refine xs_frzG 1 (D := .ds rt) rfl rfl (Γ' := [(Str.ofString "shelf", shelfV (.cell t) (.ds trE)), (Str.ofString "count", .int m), (Str.ofString "rows", .cell w)]) ⟨⟨_, rfl, .rfl⟩, ⟨_, rfl, .rfl⟩, ⟨_, rfl, .rfl⟩, trivial⟩ (σ' := [(a, .list [.int x, .int y]), (t, .dict .i (tblF rt tl')), (w, .dict .b (rowsD H T))]) ?_ rfl ?_
  · intro p hp
    simp only [List.mem_cons, List.mem_nil_iff, or_false] at hp
    rcases hp with rfl | rfl | rfl
    · exact ⟨_, .head _, .same _⟩
    · exact ⟨_, .tail _ (.tail _ (.head _)), .head (Imp.tup2 .cell)⟩
    · exact ⟨_, .tail _ (.tail _ (.tail _ (.head _))), .same _⟩
  refine xs_frzG 1 (D := .di (tblF rt tl')) rfl rfl (Γ' := [(Str.ofString "shelf", shelfV (.di (tblF rt tl')) (.ds trE)), (Str.ofString "count", .int m), (Str.ofString "rows", .cell w)]) ⟨⟨_, rfl, Imp.inst .cell⟩, ⟨_, rfl, .rfl⟩, ⟨_, rfl, .rfl⟩, trivial⟩ (σ' := [(a, .list [.int x, .int y]), (w, .dict .b (rowsD H T))]) ?_ rfl ?_
  · intro p hp
    simp only [List.mem_cons, List.mem_nil_iff, or_false] at hp
    rcases hp with rfl | rfl
    · exact ⟨_, .head _, .same _⟩
    · exact ⟨_, .tail _ (.tail _ (.head _)), .same _⟩
  refine xs_frzG 1 (D := .db (rowsD H T)) rfl rfl (Γ' := [(Str.ofString "shelf", shelfV (.di (tblF rt tl')) (.ds trE)), (Str.ofString "count", .int m), (Str.ofString "rows", .db (rowsD H T))]) ⟨⟨_, rfl, .rfl⟩, ⟨_, rfl, .rfl⟩, ⟨_, rfl, .cell⟩, trivial⟩ (σ' := [(a, .list [.int x, .int y])]) ?_ rfl ?_
  · intro p hp
    rw [List.mem_singleton.mp hp]
    exact ⟨_, .head _, .same _⟩
  -- what is asked
  obtain ⟨xs, hx1, hx2, htold⟩ := bt.told (c := c)
  obtain ⟨hl1, hl2⟩ := bt.lenG
  refine xs_cons (x_assign (ev_meth0 (ev_var rfl ⟨360, ⟨⟨363, _, rfl, rfl, by k_is, by k_is⟩, by k_is, by k_is⟩, FC.cv (htold ?_)⟩)) (by kernel_rfl!))
  refine xs_cons (x_assign (ev_call (by k_is) (by kernel_rfl!) (by k_is) (lv_cons (ev_var rfl (lv_nil (FC.cv (bt.named ?_)))))) (by kernel_rfl!))
  refine xs_cons (x_if (tv_or (tv_cmp (ev_callB (by k_is) rfl (by kernel_rfl!) (lv_cons (ev_var rfl (lv_nil (cv_sorted .b (es := gotD rt tl' H T) IsD.frB (by omega) ?_))))))))
  refine ev_callB (by k_is) rfl (by kernel_rfl!) (lv_cons (ev_var rfl (lv_nil (cv_sorted .b (es := rowsD H T) IsD.frB (by omega) ?_))))
  have hsv : veqs ((srt .b ((gotD rt tl' H T).map (·.1))).map (V.key .b)) ((srt .b ((rowsD H T).map (·.1))).map (V.key .b)) = some true := by
    rw [bt.srt]; exact veqs_refl _ (plainVs_all fun d hd => by obtain ⟨k, _, rfl⟩ := List.mem_map.mp hd; rfl)
  refine p2_neL IsLs.fr IsLs.fr hsv (Nat.le_trans (vdeps_all (b := 0) fun d hd => by obtain ⟨k, _, rfl⟩ := List.mem_map.mp hd; simp [vdep]) (by omega)) ⟨_, rfl, ?_⟩
  rw [if_neg (by decide)]
  refine' tv_or (tv_cmp (ev_comp (cl := ?cl) ?hclos ?hce rfl ?hnm ?hx ?hcl ?hcn [(Str.ofString "heard", .db (gotD rt tl' H T)), (Str.ofString "rows", .db (rowsD H T))] ?hcap rfl ?_))
  case hclos => exact rfl
  case hce => decide
  case hnm => decide
  case hx => decide
  case hcn => show List.Nodup [Str.ofString "rows", Str.ofString "heard"]; decide +kernel
  case hcl =>
    intro p hp
    simp only [List.mem_cons, List.mem_nil_iff, or_false] at hp
    rcases hp with rfl | rfl <;> rfl
  case hcap => exact ⟨⟨rfl, by kernel_rfl!, _, rfl, rfl⟩, ⟨rfl, by kernel_rfl!, _, rfl, rfl⟩, trivial⟩
  have hval : ∀ k : List UInt8, k ∈ (rowsD H T).map (·.1) → ∃ ds, dl (rowsD H T) k = some (.list ds) ∧ Row ds ∧ dl (gotD rt tl' H T) k = some (targetD ds) := fun k hk => by
    obtain ⟨v, hv, _⟩ := dl_some hk
    obtain ⟨ds, rfl, hr, h2⟩ := bt.vals hv
    exact ⟨ds, hv, hr, h2⟩
  refine ie_of (ev_var rfl ⟨_, iv_dict .b, ?_⟩)
  refine ⟨fun rem acc σ' => σ' = [(a, .list [.int x, .int y])] ∧ acc = [] ∧ ∀ d ∈ rem, ∃ k, k ∈ (rowsD H T).map (·.1) ∧ d = .bytes k, ⟨rfl, rfl, fun d hd => ?_⟩, ⟨fun rem acc σ' q => ?_, fun d r acc σ' C q => ?_⟩, fun acc σ' q => ?_⟩
  · obtain ⟨p, hp, rfl⟩ := List.mem_map.mp hd
    exact ⟨p.1, List.mem_map_of_mem hp, rfl⟩
  · rw [q.2.1]; simp
  · obtain ⟨rfl, rfl, q⟩ := q
    obtain ⟨k, hk, rfl⟩ := q _ (.head _)
    obtain ⟨ds, h1, hr, h2⟩ := hval k hk
    refine tl_one (tv_cmp (ev_call (by k_is) (by kernel_rfl!) (by k_is) (lv_cons (ev_sub (ev_var rfl (ev_var rfl (p2_dget .b IsD.frB rfl h2 (lv_nil (FC.cv (c_heard hr ?_))))))))))
    refine ev_call (by k_is) (by kernel_rfl!) (by k_is) (lv_cons (ev_sub (ev_var rfl (ev_var rfl (p2_dget .b IsD.frB rfl h1 (lv_nil (FC.cv (c_due hr ?_))))))))
    refine p2_neH hr ⟨_, rfl, ?_⟩
    exact ⟨rfl, rfl, fun x hx => q x (.tail _ hx)⟩
  obtain ⟨rfl, rfl, q⟩ := q
  refine ev_list (lv_nil ⟨?_, p2_neL IsLs.fr IsLs.fr (b := true) rfl (by simp [vdeps]) ⟨_, rfl, ?_⟩⟩)
  · rw [sizeLine_eq]; simp
  refine tv_or_nil ?_
  refine xs_nil ?_
  clear q
  -- the lost ones
  refine xs_cons (x_assign (ev_listC (lv_nil ⟨?_, fun l => ?_⟩)) (by kernel_rfl!))
  · rw [sizeLine_eq]; simp
  have hlen : (srt .b ((rowsD H T).map (·.1))).length = (rowsD H T).length := by rw [(srt_perm .b _).length_eq, List.length_map]
  refine xs_cons (x_for (ie_of (ev_callB (by k_is) rfl (by kernel_rfl!) (lv_cons (ev_var rfl (lv_nil (cv_sorted .b (es := rowsD H T) IsD.frB (by omega) ⟨_, iv_list, ?_⟩)))))))
  refine ⟨fun rem Γ' σ' => Has Γ' [(Str.ofString "shelf", shelfV (.di (tblF rt tl')) (.ds trE)), (Str.ofString "count", .int m), (Str.ofString "rows", .db (rowsD H T)), (Str.ofString "before", .tup xs), (Str.ofString "lost", .cell l)] ∧
      ∃ (f : List V) (ks : List (List UInt8)), rem = ks.map (V.key .b) ∧ (∀ k ∈ ks, k ∈ (rowsD H T).map (·.1)) ∧ f ++ (ks.filter fun k => lostB m ((dl (gotD rt tl' H T) k).getD .none)).map (V.key .b) = lostD (gotD rt tl' H T) (lostB m) ∧ f.length + ks.length ≤ 8 ∧ σ' = [(a, .list [.int x, .int y]), (l, .list f)],
    ⟨⟨rfl, rfl, rfl, rfl, rfl, trivial⟩, [], _, rfl, fun k hk => srt_mem hk, by unfold lostD; rw [bt.srt]; rfl, by rw [hlen]; simpa using hl1, rfl⟩, fun d r Γ' σ' q => ?_, fun Γ' σ' q => ?_⟩
  · obtain ⟨hΓ, f, ks, e1, e2, e3, e4, rfl⟩ := q
    cases ks with
    | nil => cases e1
    | cons k ks =>
      rw [List.map_cons] at e1
      injection e1 with e1 e1'
      subst e1 e1'
      obtain ⟨ds, h1, hr, h2⟩ := hval k (e2 k (.head _))
      obtain ⟨pg, hpg, hP, hT⟩ := row_page hr
      rw [List.filter_cons, h2, Option.getD_some] at e3
      rw [List.length_cons] at e4
      obtain ⟨g1, g2, g3, g4, g5, _⟩ := hΓ
      refine ⟨_, av_name (by kernel_rfl!), ?_⟩
      refine xs_cons (x_assign (ev_sub (ev_sub (ev_var g3 (ev_var rfl (p2_dget .b IsD.frB rfl h1 (ev_int (p2_litem (e := pg) IsLs.fr (by omega) (by omega) hpg ?_))))))) (by kernel_rfl!))
      refine xs_cons (x_assign (EV.mono (Φ := fun d σ' => d = .bool (isPg m pg) ∧ σ' = [(a, .list [.int x, .int y]), (l, .list f)]) ?_ ?_) (by kernel_rfl!))
      · cases hP with
        | ref i g =>
          refine ev_and (ev_callB (by k_is) rfl (by kernel_rfl!) (lv_cons (ev_var rfl (lv_cons (ev_glob (by k_is) (by kernel_rfl!) (lv_nil (cv_isi clsOk_ref isref ⟨true, rfl, ?_⟩)))))))
          refine ev_and (ev_cmp (ev_va rfl rfl (by k_is) (by k_is) (by k_is) (by k_is) (ev_int (p2_eqi ⟨_, rfl, ?_⟩))))
          have e : isPg m (refV i g) = (true && (g == 0) && decide (3 ≤ i) && decide (i < 3 + (m : Int))) := rfl
          rw [e]
          cases g == 0 with
          | false => exact ⟨rfl, rfl⟩
          | true =>
            refine ev_bone (ev_chain (ev_int (ev_va rfl rfl (by k_is) (by k_is) (by k_is) (by k_is) (p2_le ⟨_, rfl, ?_⟩))))
            cases decide (3 ≤ i) with
            | false => exact ⟨rfl, rfl⟩
            | true =>
              exact ev_binop (ev_int (ev_var g2 (p2_add (p2_lt ⟨rfl, rfl⟩))))
        | int i hi => exact ev_and (ev_callB (by k_is) rfl (by kernel_rfl!) (lv_cons (ev_var rfl (lv_cons (ev_glob (by k_is) (by kernel_rfl!) (lv_nil (cv_isi nr_int.1 nr_int.2 ⟨false, rfl, rfl, rfl⟩)))))))
        | name t => exact ev_and (ev_callB (by k_is) rfl (by kernel_rfl!) (lv_cons (ev_var rfl (lv_cons (ev_glob (by k_is) (by kernel_rfl!) (lv_nil (cv_isi nr_name.1 nr_name.2 ⟨false, rfl, rfl, rfl⟩)))))))
      rintro d σ' ⟨rfl, rfl⟩
      refine xs_cons (x_if (TV.mono (Φ := fun b σ' => b = lostB m (targetD ds) ∧ σ' = [(a, .list [.int x, .int y]), (l, .list f)]) ?_ ?_))
      · refine tv_or (tv_cmp (ev_call (by k_is) (by kernel_rfl!) (by k_is) (lv_cons (ev_sub (ev_var g3 (ev_var rfl (p2_dget .b IsD.frB rfl h1 (lv_nil (FC.cv (c_due hr (ev_none ?_)))))))))))
        rcases hT with e | ⟨vw, nums, hn, e⟩
        · rw [e]
          exact p2_is rfl ⟨_, rfl, rfl, rfl⟩
        · rw [e]
          refine p2_is (b := false) rfl ⟨_, rfl, ?_⟩
          refine tv_or (tv_not (tv_plain (ev_var rfl (t1_bool ?_))))
          show if (!isPg m pg) = true then ((true = !isPg m pg) ∧ _) else TV _ _ _ _ _ _ fun b σ' => (b = !isPg m pg) ∧ _
          cases isPg m pg with
          | false => exact ⟨rfl, rfl⟩
          | true => exact tv_or_nil ⟨rfl, rfl⟩
      rintro b σ' ⟨rfl, rfl⟩
      cases hb : lostB m (targetD ds) with
      | true =>
        rw [hb, if_pos rfl] at e3
        refine xs_cons (x_expr (ev_methB (ev_var g5 ⟨_, mok_list (IsLs.at_ 1 rfl) PySem.F.slot_list_append PySem.F.type_list_append, lv_cons (ev_var rfl (lv_nil (cv_append 1 rfl (by omega) ?_)))⟩)))
        refine xs_nil (xs_nil ⟨⟨g1, g2, g3, g4, g5, trivial⟩, f ++ [V.bytes k], ks, rfl, fun x hx => e2 x (.tail _ hx), ?_, by simp; omega, rfl⟩)
        rw [← e3]; simp
      | false =>
        rw [hb, if_neg Bool.false_ne_true] at e3
        exact xs_nil (xs_nil ⟨⟨g1, g2, g3, g4, g5, trivial⟩, f, ks, rfl, fun x hx => e2 x (.tail _ hx), e3, by omega, rfl⟩)
  obtain ⟨⟨g1, g2, g3, g4, g5, _⟩, f, ks, e1, e2, e3, e4, rfl⟩ := q
  have hks : ks = [] := by
    cases ks with
    | nil => rfl
    | cons _ _ => cases e1
  subst hks
  rw [List.filter_nil, List.map_nil, List.append_nil] at e3
  subst e3
  have hpl : ∀ d ∈ lostD (gotD rt tl' H T) (lostB m), plainV d = true ∧ vdep d ≤ 0 := fun d hd => by
    obtain ⟨k, _, rfl⟩ := List.mem_map.mp hd
    exact ⟨rfl, by simp [vdep]⟩
  refine xs_cons (x_ret (ev_and (ev_cmp (ev_call (by k_is) (by kernel_rfl!) (by k_is) (lv_cons (ev_var g1 (lv_nil (FC.cv (bt.broken ?_)))))))))
  refine ev_var g5 (p2_eqL IsLs.fr (IsLs.at_ 1 rfl) (b := true) (veqs_refl _ (plainVs_all fun d hd => (hpl d hd).1)) (Nat.le_trans (vdeps_all fun d hd => (hpl d hd).2) (by omega)) ⟨true, rfl, ?_⟩)
  refine ev_bone (ev_cmp (ev_meth0 (ev_var g1 ⟨360, ⟨⟨363, _, rfl, rfl, by k_is, by k_is⟩, by k_is, by k_is⟩, FC.cv (htold ?_)⟩)))
  exact ev_var g4 (p2_eqT (b := true) (veqs_refl _ hx1) (by omega) ⟨_, [], .inl rfl, List.nil_sublist _, rfl⟩)
end
end Mine
end

section
open PySem PySem.W PyProof.Rows PySem.Calls PySem.Spec
set_option maxRecDepth 100000
namespace Mine
theorem rps_of_well {P : Params} {w : World} {h h' : Heap} : ∀ {ns : List Int} {vs : List Value}, WellAll P h vs ((ns.map PyData.int).map ofPy) → Rps w h' vs (ns.map V.int)
  | [], _, x => by cases x; exact .nil
  | n :: ns, _, x => by
    cases x with
    | cons a b =>
      cases a
      exact .cons (.int _ _) (rps_of_well b)
theorem ofPys_map : ∀ xs : List PyData, ofPys xs = xs.map ofPy
  | [] => by simp [ofPys]
  | x :: xs => by simp [ofPys, ofPys_map xs]
theorem ofPy_list {xs : List PyData} : ofPy (.list xs) = .list (xs.map ofPy) := by
  simp [ofPy, ofPys_map]
theorem list_of_well {P : Params} {h : Heap} {a : Addr} {ns : List Int} (x : Well P h (.ref a) (ofPy (PyData.list (ns.map PyData.int)))) : ∃ vs, h.get? a = some (listO vs 0) ∧ ∀ w h', Rps w h' vs (ns.map V.int) := by
  rw [ofPy_list] at x
  generalize hv : Value.ref a = v at x
  generalize hd' : WData.list ((ns.map PyData.int).map ofPy) = d at x
  cases x with
  | list e y => 
    cases hv
    cases hd'
    exact ⟨_, e, fun w h' => rps_of_well y⟩
  | _ => cases hd'
theorem run_law {w : World} {s₁ : Shared} {mg mb : Str → Option Value} (K : (Mine.HpK w.params).In s₁.heap) (g : s₁.heap.Ns mainGlobals mg) (b : s₁.heap.Ns builtinsNs mb) (nl : s₁.heap.NoLimit) (bt : ∀ x : Str, x ≠ "__name__" → mb x = bootBuiltins x) {a : Addr} {ns : List Int} (hz : ns.length ≤ 1000)
    (hw : Well w.params s₁.heap (.ref a) (ofPy (PyData.list (ns.map PyData.int)))) {R : Result → Shared → Prop} (k : ∀ h' tk', (∀ b o, s₁.heap.get? b = some o → h'.get? b = some o) → R (.ok (.ret (.bool true))) { s₁ with heap := h', toks := tk' }) :
    codeAny (model prg w) callerA (.call (.ref 664) ⟨[.ref a], []⟩) R s₁ := by
  obtain ⟨vs, e, hr⟩ := list_of_well hw
  let c : Cx := ⟨w, s₁.heap, mg, mb, K, g, b, nl, ⟨_, K 664 _ (show (Mine.HpK w.params).lookup 664 = some _ by k_is)⟩, bt⟩
  have ow : Ow c [] [] s₁.heap := ⟨fun b x e => e, (fun a q => nomatch q), List.nodup_nil, (fun a q => nomatch q), (fun p q => nomatch q), (fun q => nomatch q)⟩
  refine (c_law (c := c) (n := 0) hz).run callerA [] s₁ [.ref a] R ⟨rfl, by decide, by decide⟩ ow (.cons (.list e (hr _ _)) .nil) fun v d σ' own' h' tk' p ow' st r => ?_
  subst p
  cases r
  exact k h' tk' fun b o e => st.kp.keep b o e (fun q => nomatch q)
end Mine
end

namespace Mine.top
theorem tw17982674916167742759 : True := trivial
theorem tw14677537059970467085 : True := trivial
theorem tw5993756838281382261 : True := trivial
theorem tw4770345731304789017 : True := trivial
theorem tw2220603974072090253 : True := trivial
theorem tw18129943572300386033 : True := trivial
theorem tw6639257083661557061 : True := trivial
theorem tw9437893007894698314 : True := trivial
theorem tw7894594136949910908 : True := trivial
theorem tw15346330546999012534 : True := trivial
theorem tw1366308652836431711 : True := trivial
theorem tw663096999872334218 : True := trivial
theorem tw1381835654847214879 : True := trivial
theorem tw10351904256014021328 : True := trivial
theorem tw16266980208029342503 : True := trivial
theorem tw16128099981359696397 : True := trivial
theorem tw16862539386359650817 : True := trivial
theorem tw9255993762356574847 : True := trivial
theorem tw4920932099607475058 : True := trivial
theorem tw6451443466077778170 : True := trivial
theorem tw5639618056041163616 : True := trivial
theorem tw13385244156195431271 : True := trivial
theorem tw11994683656316670133 : True := trivial
theorem tw2834572992086024273 : True := trivial
theorem tw11383000496634168614 : True := trivial
theorem tw8823455108540655025 : True := trivial
theorem tw12856577752794610377 : True := trivial
theorem tw16004416686337608138 : True := trivial
theorem tw9166809390415177425 : True := trivial
theorem tw10774637447528242797 : True := trivial
theorem tw4353914297306841546 : True := trivial
theorem tw9590735534726013551 : True := trivial
theorem tw4674308254789603623 : True := trivial
theorem tw9165953624949470791 : True := trivial
theorem tw2809488002615124206 : True := trivial
theorem tw7671549972530922468 : True := trivial
theorem tw12638030207367898728 : True := trivial
theorem tw668136137496459709 : True := trivial
theorem tw11582926029173025856 : True := trivial
theorem tw995497684801637723 : True := trivial
theorem tw17582957951858275007 : True := trivial
theorem tw661290744650703789 : True := trivial
theorem tw10399464001100048223 : True := trivial
theorem tw3479634599624807885 : True := trivial
theorem tw13370185576492129568 : True := trivial
theorem tw7213333562754528385 : True := trivial
theorem tw8265311939077410998 : True := trivial
theorem tw2145171640123136144 : True := trivial
theorem tw1803303928475200142 : True := trivial
theorem tw12887107875299966611 : True := trivial
theorem tw1088946173253831356 : True := trivial
theorem tw13889484949932952446 : True := trivial
theorem tw13799840507378627052 : True := trivial
theorem tw9685713192446186341 : True := trivial
theorem tw17273134470429262220 : True := trivial
theorem tw5278709424875269971 : True := trivial
theorem tw6042063481754889096 : True := trivial
theorem tw14724332232928298890 : True := trivial
theorem tw7033079012710635876 : True := trivial
theorem tw13044034144603486326 : True := trivial
theorem tw18085771088847121727 : True := trivial
theorem tw17022078359063049780 : True := trivial
theorem tw17355269125676882429 : True := trivial
theorem tw16580785732701462914 : True := trivial
theorem tw3767615275625035234 : True := trivial
theorem tw10915162052029792233 : True := trivial
theorem tw3976154599441133093 : True := trivial
theorem tw887695700811335699 : True := trivial
theorem tw17795014544551873601 : True := trivial
theorem tw956089473029861405 : True := trivial
theorem tw5225916559131626549 : True := trivial
theorem tw11982747722937265360 : True := trivial
theorem tw1112988674713690477 : True := trivial
theorem tw13968125046926948103 : True := trivial
theorem tw3974946682361356058 : True := trivial
theorem tw8054331753737935190 : True := trivial
theorem tw9666326922614434849 : True := trivial
theorem tw7855079511596107753 : True := trivial
theorem tw17103585973383926153 : True := trivial
theorem tw13549259019975226677 : True := trivial
theorem tw1321871150748368714 : True := trivial
theorem tw1297684725254868899 : True := trivial
theorem tw17323899518341599180 : True := trivial
theorem tw12764151676501842404 : True := trivial
theorem tw14615657086365298920 : True := trivial
theorem tw11520865232209809239 : True := trivial
theorem tw3195968871104189447 : True := trivial
theorem tw4177254973167742082 : True := trivial
theorem tw16453443671601555132 : True := trivial
theorem tw5244899138074338376 : True := trivial
theorem tw6211089042160764376 : True := trivial
theorem tw4840481374290595910 : True := trivial
theorem tw14826035006057030972 : True := trivial
theorem tw2506305409684761478 : True := trivial
theorem tw8892184565913893157 : True := trivial
theorem tw3712731000106771831 : True := trivial
theorem tw5513142621748847562 : True := trivial
theorem tw17886615442053742456 : True := trivial
theorem tw9068506458530023791 : True := trivial
theorem tw9589608677651300831 : True := trivial
theorem tw9361663168868926718 : True := trivial
theorem tw12904532413392791838 : True := trivial
theorem tw1068965626710143233 : True := trivial
theorem tw2103985501979894447 : True := trivial
theorem tw8281120267493503204 : True := trivial
theorem tw6812286434817487243 : True := trivial
theorem tw16719718919923625709 : True := trivial
theorem tw17030962893124633753 : True := trivial
theorem tw6196800358849779857 : True := trivial
theorem tw3378803678994701225 : True := trivial
theorem tw9990226795618131978 : True := trivial
theorem tw4526881389914513428 : True := trivial
theorem tw1047907039808853306 : True := trivial
theorem tw14466935161476858967 : True := trivial
theorem tw17346259052997144950 : True := trivial
theorem tw8278142751180696288 : True := trivial
theorem tw11141966352661209427 : True := trivial
theorem tw297971269722091814 : True := trivial
theorem tw15911569825323301435 : True := trivial
theorem tw9953747333497923681 : True := trivial
theorem tw6674990990233134667 : True := trivial
theorem tw16900427199656544559 : True := trivial
theorem tw8369368087495890639 : True := trivial
theorem tw11457754044182789617 : True := trivial
theorem tw3261557481417251176 : True := trivial
theorem tw8693662901424576113 : True := trivial
theorem tw7204998973626084599 : True := trivial
theorem tw2967798162736962236 : True := trivial
theorem tw9149571693438533347 : True := trivial
theorem tw10361075674979980167 : True := trivial
theorem tw12783364522390391256 : True := trivial
theorem tw14917401599646851644 : True := trivial
theorem tw6930518751129746686 : True := trivial
theorem tw15976228082101565994 : True := trivial
theorem tw12105128591322288922 : True := trivial
theorem tw17620759639134147866 : True := trivial
theorem tw5728218623943512802 : True := trivial
theorem tw6746510453823603384 : True := trivial
theorem tw14399976873020721970 : True := trivial
theorem tw13710211086531791108 : True := trivial
theorem tw14657780768301432306 : True := trivial
theorem tw15451780782824253742 : True := trivial
theorem tw13068111086705522682 : True := trivial
theorem tw9961057766049560675 : True := trivial
theorem tw16034636559557993077 : True := trivial
theorem tw8694864300669457046 : True := trivial
theorem tw2601905985415302144 : True := trivial
theorem tw7743179893348639699 : True := trivial
theorem tw8622502720953521162 : True := trivial
theorem tw13369591340354186047 : True := trivial
theorem tw2312856594315299383 : True := trivial
theorem tw16795567611416646642 : True := trivial
theorem tw12535971307161669396 : True := trivial
theorem tw17177869089781658578 : True := trivial
theorem tw728428047077509346 : True := trivial
theorem tw12427389293880184781 : True := trivial
theorem tw4047667213573674445 : True := trivial
theorem tw10001883323181062329 : True := trivial
theorem tw8139039716903228087 : True := trivial
theorem tw8410488445778877200 : True := trivial
theorem tw8107780213005350392 : True := trivial
theorem tw15095372191486117680 : True := trivial
theorem tw13134186033006778460 : True := trivial
theorem tw4159251561096739476 : True := trivial
theorem tw14402358008270493973 : True := trivial
theorem tw1483126911874232274 : True := trivial
theorem tw11922380849998532372 : True := trivial
theorem tw15349318334595610263 : True := trivial
theorem tw2287823674025257028 : True := trivial
theorem tw4713442408853163898 : True := trivial
theorem tw4166218997396506358 : True := trivial
theorem tw16273406610938067001 : True := trivial
theorem tw146815374380898660 : True := trivial
theorem tw2249405535684624136 : True := trivial
theorem tw8237333600419904120 : True := trivial
theorem tw5088376156974544275 : True := trivial
theorem tw2731995056826638727 : True := trivial
theorem tw6431110157172167083 : True := trivial
theorem tw1492452104121835379 : True := trivial
theorem tw14611434983143301774 : True := trivial
theorem tw4060285617443141363 : True := trivial
theorem tw16886215307392074418 : True := trivial
theorem tw4656485037274611717 : True := trivial
theorem tw5889316905344633881 : True := trivial
theorem tw1988063486488863061 : True := trivial
theorem tw7673058066778466091 : True := trivial
theorem tw10648311167861321448 : True := trivial
theorem tw13345470168829271861 : True := trivial
theorem tw6859976401760118174 : True := trivial
theorem tw16415559393655328363 : True := trivial
theorem tw2126296398998916975 : True := trivial
theorem tw2907113945770861938 : True := trivial
theorem tw1275901062530889299 : True := trivial
theorem tw7600245330811189008 : True := trivial
theorem tw1697544655201012999 : True := trivial
theorem tw2220570432770164149 : True := trivial
theorem tw13928562000808390012 : True := trivial
theorem tw7847650389618582240 : True := trivial
theorem tw14502225709538309166 : True := trivial
theorem tw427269002284569659 : True := trivial
theorem tw6438537300738474071 : True := trivial
theorem tw6487610083215253720 : True := trivial
theorem tw1638113669730673903 : True := trivial
theorem tw9631074621892390191 : True := trivial
theorem tw2822501910515967889 : True := trivial
theorem tw705360758644809490 : True := trivial
theorem tw2924597203103170677 : True := trivial
theorem tw8813761850579938390 : True := trivial
theorem tw1886144042066472794 : True := trivial
theorem tw14349089067433371257 : True := trivial
theorem tw7715697345341360870 : True := trivial
theorem tw1814787853859245837 : True := trivial
theorem tw17470836177267949868 : True := trivial
theorem tw9305691244287143441 : True := trivial
theorem tw17594962761535629368 : True := trivial
theorem tw15722756333993289495 : True := trivial
theorem tw15299407806266782574 : True := trivial
theorem tw9227057690007400460 : True := trivial
theorem tw1195175773429642966 : True := trivial
theorem tw6898770573198911631 : True := trivial
theorem tw3969286963782609292 : True := trivial
theorem tw17555251805378815213 : True := trivial
theorem tw1617357707322924660 : True := trivial
theorem tw1291508964198565346 : True := trivial
theorem tw9543386914318008161 : True := trivial
theorem tw6756868429301003459 : True := trivial
theorem tw72247145696351765 : True := trivial
theorem tw10005945817407372193 : True := trivial
theorem tw9800703332001039478 : True := trivial
theorem tw10801874191123338550 : True := trivial
theorem tw11334415319851112604 : True := trivial
theorem tw1040915598704419856 : True := trivial
theorem tw7297446738713254254 : True := trivial
theorem tw1284575025550258836 : True := trivial
theorem tw2405475915293451298 : True := trivial
theorem tw814325599930780420 : True := trivial
theorem tw4186445540838780016 : True := trivial
theorem tw16713831800681072344 : True := trivial
theorem tw5868845118606482295 : True := trivial
theorem tw13501252493785611398 : True := trivial
theorem tw1706793611546318481 : True := trivial
theorem tw649594095290182367 : True := trivial
theorem tw81815255157605957 : True := trivial
theorem tw18164388396756303480 : True := trivial
theorem tw9743097575036673082 : True := trivial
theorem tw390997316461189296 : True := trivial
theorem tw2555065506035805374 : True := trivial
theorem tw14142502885225118848 : True := trivial
theorem tw3195522803047326042 : True := trivial
theorem tw12819366960792805191 : True := trivial
theorem tw12622177474791663080 : True := trivial
theorem tw9063741608606530840 : True := trivial
theorem tw2867133514656366558 : True := trivial
theorem tw7313339093194340965 : True := trivial
theorem tw10617020205504526918 : True := trivial
theorem tw15877122091014420850 : True := trivial
theorem tw3207569582813703071 : True := trivial
theorem tw1732150942055357024 : True := trivial
theorem tw14459580976405569124 : True := trivial
theorem tw11845233108574324481 : True := trivial
theorem tw3337584539547039419 : True := trivial
theorem tw13420762306968818387 : True := trivial
theorem tw13318506193475082254 : True := trivial
theorem tw13987285891283452908 : True := trivial
theorem tw6908635100366463001 : True := trivial
theorem tw10195997230039290492 : True := trivial
theorem tw8874702517807110003 : True := trivial
theorem tw4392038535549328194 : True := trivial
theorem tw16736118626332596326 : True := trivial
theorem tw10414433010598505635 : True := trivial
theorem tw10694878333477680388 : True := trivial
theorem tw2029088862249889922 : True := trivial
theorem tw350670483859837877 : True := trivial
theorem tw12012865196380796599 : True := trivial
theorem tw4835499133494076262 : True := trivial
theorem tw4076138812419527698 : True := trivial
theorem tw4058662728301269685 : True := trivial
theorem tw14789260269991461300 : True := trivial
theorem tw84136930442132756 : True := trivial
theorem tw16597617366809209970 : True := trivial
theorem tw13994475860397038760 : True := trivial
theorem tw1108800333578037850 : True := trivial
theorem tw860223938195835975 : True := trivial
theorem tw10657950659306570408 : True := trivial
theorem tw17474498911051797155 : True := trivial
theorem tw3548060758652744671 : True := trivial
theorem tw3486219094355674750 : True := trivial
theorem tw13975414291046593716 : True := trivial
theorem tw15542334942015070624 : True := trivial
theorem tw4699463449715708850 : True := trivial
theorem tw672699306608606093 : True := trivial
theorem tw9152664641465651067 : True := trivial
theorem tw11053662475850362967 : True := trivial
theorem tw5983031951866500094 : True := trivial
theorem tw1833847959688406909 : True := trivial
theorem tw9227541089923242437 : True := trivial
theorem tw6973401727384321114 : True := trivial
theorem tw7557910624720293991 : True := trivial
theorem tw4791253341166991637 : True := trivial
theorem tw10577272966987657301 : True := trivial
theorem tw4951766788466123468 : True := trivial
theorem tw13001836021917841797 : True := trivial
theorem tw4134505453457115739 : True := trivial
theorem tw15245507539482535896 : True := trivial
theorem tw15646934709686841381 : True := trivial
theorem tw17176029603704830031 : True := trivial
theorem tw4555866861457887817 : True := trivial
theorem tw13290321428070320777 : True := trivial
theorem tw3739144386018749749 : True := trivial
theorem tw10090393231696489298 : True := trivial
theorem tw401921906979044612 : True := trivial
theorem tw16044733080236030384 : True := trivial
theorem tw17565814175750979855 : True := trivial
theorem tw16840627104734473223 : True := trivial
theorem tw1139600151236580504 : True := trivial
theorem tw12958664272152378060 : True := trivial
theorem tw13432635357386499347 : True := trivial
theorem tw12392516345856041104 : True := trivial
theorem tw3002795768020413707 : True := trivial
theorem tw13802547742096326172 : True := trivial
theorem tw8523463495250067690 : True := trivial
theorem tw7008692893051332821 : True := trivial
theorem tw864819663365544661 : True := trivial
theorem tw16878204669230926818 : True := trivial
theorem tw10987319290404115282 : True := trivial
theorem tw16155163154822807229 : True := trivial
theorem tw6885214360128481674 : True := trivial
theorem tw18289109515434150305 : True := trivial
theorem tw6520327441239513222 : True := trivial
theorem tw12080426169559351053 : True := trivial
theorem tw370947364307004932 : True := trivial
theorem tw6265701101103706036 : True := trivial
theorem tw15503665604740900718 : True := trivial
theorem tw7444641836354208208 : True := trivial
theorem tw9259421805112917234 : True := trivial
theorem tw16054190913257422852 : True := trivial
theorem tw16123964013534891561 : True := trivial
theorem tw13307591127769906961 : True := trivial
theorem tw11430207588045935325 : True := trivial
theorem tw5609151216138764652 : True := trivial
theorem tw1486479319815781832 : True := trivial
theorem tw6664487174759623829 : True := trivial
theorem tw76412952228603488 : True := trivial
theorem tw13090165191389475591 : True := trivial
theorem tw17576949682797635024 : True := trivial
theorem tw10079171474624433434 : True := trivial
theorem tw17469865338272021226 : True := trivial
theorem tw9108098604805947806 : True := trivial
theorem tw953821971998124167 : True := trivial
theorem tw17542608870123051758 : True := trivial
theorem tw13500427573557490136 : True := trivial
theorem tw16800595933775061595 : True := trivial
theorem tw13120753694373217308 : True := trivial
theorem tw8043003576528973991 : True := trivial
theorem tw3422688185749166683 : True := trivial
theorem tw2732273902793177162 : True := trivial
theorem tw6473336682457920079 : True := trivial
theorem tw339143206060000330 : True := trivial
theorem tw17781115878593249900 : True := trivial
theorem tw1516213087968936877 : True := trivial
theorem tw877433047237710547 : True := trivial
theorem tw8148004212497801138 : True := trivial
theorem tw9503340733035011235 : True := trivial
theorem tw8184561461823581802 : True := trivial
theorem tw14390669486469195807 : True := trivial
theorem tw196536941598035525 : True := trivial
theorem tw12317137736924338119 : True := trivial
theorem tw16885616592811714743 : True := trivial
theorem tw13264354339760550358 : True := trivial
theorem tw18063644159110109576 : True := trivial
theorem tw8973803690348224638 : True := trivial
theorem tw7414872774492366064 : True := trivial
theorem tw11334350811105764591 : True := trivial
theorem tw8689318265317240412 : True := trivial
theorem tw6430265229019958763 : True := trivial
theorem tw10797620697341660853 : True := trivial
theorem tw10006222313960134694 : True := trivial
theorem tw14747140909534839006 : True := trivial
theorem tw3730354652608582461 : True := trivial
theorem tw16821654228018055803 : True := trivial
theorem tw15212760480394562756 : True := trivial
theorem tw11542710104232473196 : True := trivial
theorem tw12787338502077490372 : True := trivial
theorem tw1971433849790844608 : True := trivial
theorem tw10996937224433265937 : True := trivial
theorem tw2544169868661182894 : True := trivial
theorem tw12483720753089274532 : True := trivial
theorem tw3474246075231452896 : True := trivial
theorem tw2218668502564051296 : True := trivial
theorem tw5702910450625016506 : True := trivial
theorem tw6010688910775971523 : True := trivial
theorem tw8810280945414196856 : True := trivial
theorem tw1149218181149386328 : True := trivial
theorem tw105208000716104510 : True := trivial
theorem tw15177526630643400193 : True := trivial
theorem tw5118827330378232414 : True := trivial
theorem tw15918733279669447828 : True := trivial
theorem tw575894324575664597 : True := trivial
theorem tw12958502747184954254 : True := trivial
theorem tw8598144960395782539 : True := trivial
theorem tw1843344800811705456 : True := trivial
theorem tw14168018189251442112 : True := trivial
theorem tw10783980745131425670 : True := trivial
theorem tw2417791160451022400 : True := trivial
theorem tw18371284783138465269 : True := trivial
theorem tw453181688931711583 : True := trivial
theorem tw7527032243904285869 : True := trivial
theorem tw5581607755468803823 : True := trivial
theorem tw16174758807025615021 : True := trivial
theorem tw2057334267981633021 : True := trivial
theorem tw2464713573024523455 : True := trivial
theorem tw16666122058527598403 : True := trivial
theorem tw2812155379371279736 : True := trivial
theorem tw9335426496214029073 : True := trivial
theorem tw8538268897159353584 : True := trivial
theorem tw2007660962349395123 : True := trivial
theorem tw10548783162686979305 : True := trivial
theorem tw4213018616267185653 : True := trivial
theorem tw2514443458684651071 : True := trivial
theorem tw1869187583165140508 : True := trivial
theorem tw8363718466572441477 : True := trivial
theorem tw1736530178072539846 : True := trivial
theorem tw14372152842798730730 : True := trivial
theorem tw13261893007816960818 : True := trivial
theorem tw16782997733028217545 : True := trivial
theorem tw18194552166560175392 : True := trivial
theorem tw14282377253939248939 : True := trivial
theorem tw1585457916280141200 : True := trivial
theorem tw11613256710310857696 : True := trivial
theorem tw6333448901615975916 : True := trivial
theorem tw17089494485692210459 : True := trivial
theorem tw4299629679881509495 : True := trivial
theorem tw5766051744304087583 : True := trivial
theorem tw13091174067606910046 : True := trivial
theorem tw2847958352784047137 : True := trivial
theorem tw15740088241188596515 : True := trivial
theorem tw14796646475526232899 : True := trivial
theorem tw3871027444623705763 : True := trivial
theorem tw9442318146202087700 : True := trivial
theorem tw14762295962024373759 : True := trivial
theorem tw6505410396798821541 : True := trivial
theorem tw17315540178315561739 : True := trivial
theorem tw7458633546980236471 : True := trivial
theorem tw5969682004907312646 : True := trivial
theorem tw13177472732611162249 : True := trivial
theorem tw6370870915552960936 : True := trivial
theorem tw8560541052185303311 : True := trivial
theorem tw9378254376102152143 : True := trivial
theorem tw2741389259953327712 : True := trivial
theorem tw15254643099363442306 : True := trivial
theorem tw17492772389151264855 : True := trivial
theorem tw16439428074185983240 : True := trivial
theorem tw4784893810139332661 : True := trivial
theorem tw6491118196486620199 : True := trivial
theorem tw4655869559712951663 : True := trivial
theorem tw908825868028484722 : True := trivial
theorem tw4321519831107876412 : True := trivial
theorem tw18367679650794681301 : True := trivial
theorem tw6694047246710070196 : True := trivial
theorem tw18008055252877512497 : True := trivial
theorem tw2686433634493928565 : True := trivial
theorem tw8212240652046128837 : True := trivial
theorem tw8265191368974092141 : True := trivial
theorem tw11133666699803404755 : True := trivial
theorem tw11466170419677230873 : True := trivial
theorem tw1400011881503588481 : True := trivial
theorem tw594810645892935528 : True := trivial
theorem tw8679839319945467846 : True := trivial
theorem tw2727672472851901052 : True := trivial
theorem tw4205137553216949640 : True := trivial
theorem tw3561193834555079511 : True := trivial
theorem tw8999917154711486175 : True := trivial
theorem tw9366391650621772374 : True := trivial
theorem tw5303079699428457377 : True := trivial
theorem tw1754339480302792767 : True := trivial
theorem tw1655259298481077034 : True := trivial
theorem tw7847352863974893604 : True := trivial
theorem tw16759092144687519636 : True := trivial
theorem tw12318557346453588183 : True := trivial
theorem tw104434173382791472 : True := trivial
theorem tw13272337422414781067 : True := trivial
theorem tw9614876229902214918 : True := trivial
theorem tw11459358961799972967 : True := trivial
theorem tw83393220934416808 : True := trivial
theorem tw16262243036561855896 : True := trivial
theorem tw3669314199184481253 : True := trivial
theorem tw681777741448182936 : True := trivial
theorem tw795583310449317561 : True := trivial
theorem tw5245862010334584759 : True := trivial
theorem tw6659320528611288953 : True := trivial
theorem tw10341860258655708415 : True := trivial
theorem tw9233335307524088747 : True := trivial
theorem tw10404823597219466188 : True := trivial
theorem tw4498253355057717688 : True := trivial
theorem tw17342085116792181814 : True := trivial
theorem tw3140898538269762758 : True := trivial
theorem tw13160728816969591200 : True := trivial
theorem tw6127594578889010139 : True := trivial
theorem tw9673933992889287130 : True := trivial
theorem tw10864713392326063847 : True := trivial
theorem tw4571971715460732019 : True := trivial
theorem tw13889309363888878346 : True := trivial
theorem tw12545222027267286695 : True := trivial
theorem tw13983857475226248213 : True := trivial
theorem tw13713866747541496747 : True := trivial
theorem tw10579768621468169598 : True := trivial
theorem tw3254097082911018636 : True := trivial
theorem tw6662652255960138227 : True := trivial
theorem tw7740461459972228597 : True := trivial
theorem tw4383139521930768336 : True := trivial
theorem tw352232786441526191 : True := trivial
theorem tw3584897518013459382 : True := trivial
theorem tw14851680436948445374 : True := trivial
theorem tw517144808224063464 : True := trivial
theorem tw7250933059871147345 : True := trivial
theorem tw17219337458794519322 : True := trivial
theorem tw4551080515912023512 : True := trivial
theorem tw14987219478266130788 : True := trivial
theorem tw3796891538752321733 : True := trivial
theorem tw14632489290957082403 : True := trivial
theorem tw9016798869158615873 : True := trivial
theorem tw2722852734226103192 : True := trivial
theorem tw12209182163369298222 : True := trivial
theorem tw16550210197400561554 : True := trivial
theorem tw12166907935582030026 : True := trivial
theorem tw9962302188120564619 : True := trivial
theorem tw53344730913325255 : True := trivial
theorem tw216529984938456764 : True := trivial
theorem tw10187724287525710026 : True := trivial
theorem tw1123975283337734383 : True := trivial
theorem tw8297286125493194097 : True := trivial
theorem tw11279390925490393535 : True := trivial
theorem tw2985252069258134486 : True := trivial
theorem tw12376051458212225564 : True := trivial
theorem tw8443935842833279946 : True := trivial
theorem tw5648408011753718230 : True := trivial
theorem tw1584292188352093569 : True := trivial
theorem tw15361541807878343388 : True := trivial
theorem tw17981982808018919739 : True := trivial
theorem tw7386116660499605909 : True := trivial
theorem tw1142415686869020238 : True := trivial
theorem tw987869383939708018 : True := trivial
theorem tw14823308797102314842 : True := trivial
theorem tw14042817526060737062 : True := trivial
theorem tw12540527436937284434 : True := trivial
theorem tw17103177528636943170 : True := trivial
theorem tw7325726471975496349 : True := trivial
theorem tw2443449257678562572 : True := trivial
theorem tw14371913498598963198 : True := trivial
theorem tw788273225186049534 : True := trivial
theorem tw7198060816514059695 : True := trivial
theorem tw6124053682588569230 : True := trivial
theorem tw12117888159696746259 : True := trivial
theorem tw7990429038631628895 : True := trivial
theorem tw3874152929960365753 : True := trivial
theorem tw18177719399980262173 : True := trivial
theorem tw8435561252592420358 : True := trivial
theorem tw12643491718579748851 : True := trivial
theorem tw11199710921928265848 : True := trivial
theorem tw7273676953221729872 : True := trivial
theorem tw2782073688633401757 : True := trivial
theorem tw17486766287000646611 : True := trivial
theorem tw17428532607074087071 : True := trivial
theorem tw10567129059001840431 : True := trivial
theorem tw5523086135645875356 : True := trivial
theorem tw16104615914030681952 : True := trivial
theorem tw4828031223510198475 : True := trivial
theorem tw9059672392935016618 : True := trivial
theorem tw9195894827357321740 : True := trivial
theorem tw18034075008235765660 : True := trivial
theorem tw18237780215024852062 : True := trivial
theorem tw9382581127745807760 : True := trivial
theorem tw6786057226368545225 : True := trivial
theorem tw12342655685612074800 : True := trivial
theorem tw9739860059890490050 : True := trivial
theorem tw6240723676877644813 : True := trivial
theorem tw1016984595167383106 : True := trivial
theorem tw13305523845174962083 : True := trivial
theorem tw7830913209206220567 : True := trivial
theorem tw3217022616335106338 : True := trivial
theorem tw6189502492464219833 : True := trivial
theorem tw14608685727046917156 : True := trivial
theorem tw15240379268576122478 : True := trivial
theorem tw5105846836358774362 : True := trivial
theorem tw708234853630380328 : True := trivial
theorem tw8204474986945543665 : True := trivial
theorem tw5476889619067714990 : True := trivial
theorem tw6883741973766446791 : True := trivial
theorem tw9851269098105209369 : True := trivial
theorem tw15860264024139754761 : True := trivial
theorem tw9913501989792142831 : True := trivial
theorem tw11858546649754279707 : True := trivial
theorem tw8311017846404947139 : True := trivial
theorem tw8327351992414209593 : True := trivial
theorem tw4331257952254489624 : True := trivial
theorem tw3820434133910038737 : True := trivial
theorem tw4859757453598101857 : True := trivial
theorem tw9768079942903668216 : True := trivial
theorem tw283044589724301 : True := trivial
theorem tw4773702212245658779 : True := trivial
theorem tw602653604445443664 : True := trivial
theorem tw1245559373397905713 : True := trivial
theorem tw5398424786039705171 : True := trivial
theorem tw15362295582089109014 : True := trivial
theorem tw17953984050398360512 : True := trivial
theorem tw1294077662247117797 : True := trivial
theorem tw14453841093610474573 : True := trivial
theorem tw13359135706311490777 : True := trivial
theorem tw18186074749648716422 : True := trivial
theorem tw3855276242980373810 : True := trivial
theorem tw2617719716777270872 : True := trivial
theorem tw18245740138792012028 : True := trivial
theorem tw501154541418245514 : True := trivial
theorem tw47109162367338493 : True := trivial
theorem tw11334203419191126389 : True := trivial
theorem tw4796303294375832693 : True := trivial
theorem tw4547018644641229820 : True := trivial
theorem tw1394568958698188020 : True := trivial
theorem tw620129878449983639 : True := trivial
theorem tw12718909917080609646 : True := trivial
theorem tw9272544492142499777 : True := trivial
theorem tw7681529838311687354 : True := trivial
theorem tw3120133295221510679 : True := trivial
theorem tw8140125068956082859 : True := trivial
theorem tw2027170810949906035 : True := trivial
theorem tw15542158460251394765 : True := trivial
end Mine.top

section
open PySem PySem.W PyProof.Rows PySem.Calls PySem.Spec
namespace Mine
set_option Elab.async true
set_option maxRecDepth 100000 in
set_option maxHeartbeats 8000000 in
theorem top : PySem.Challenge.rw_pb0494_01.Holds := by
  w_on; o_law; o_head (kHook Mine.HpK Mine.HpAs (fun _ => by kernel_rfl)); (case hw => w_witness2)
  intro w s₀ s₁ mg mb G Y fa o pm cd doc dV kV ho hdd hcd hD hmg hg args vals as hpre hlay hrd hwl hlo
  have KX := kIn_of Y
  refine Ground.open G ?_
  intro T B D TE TW
  wrow_args hpre hlay hrd hwl hlo
  all_goals (
    refine enter_call ?_
    have e : mg (Str.ofString "law") = some (.ref 664) := mg_of KX T.g (show nsIn (Mine.HpK w.params) mainGlobals "law" = some (some (.ref 664)) by k_is)
    have e2 : mg (Str.ofString "law") = some (.ref fa) := hmg
    rw [e] at e2
    cases e2
    rename Well _ _ _ _ => hw
    rename ¬ (_ < _) => hn
    refine Mine.run_law KX T.g T.b T.nolimit T.builtins (by omega) hw fun h' tk' keep => ?_
    refine GoodW.toG ⟨.inl ⟨_, .bool true, [], rfl, ?_, .bool true, ?_, fun _ => ⟨List.nodup_nil, fun a h => nomatch h⟩⟩, keep, rfl, hg⟩
    · intro cls
      rfl
    · exact postW_of (r := PySem.Challenge.rw_pb0494_01.row.toRowW) (X := true) rfl ((w_eq_bool (k := true) (l := true) (w_res rfl) w_lit).trans (by rfl)) rfl)
end Mine
end

theorem PySem.Challenge.cw_pb0494_01_holds : PySem.Challenge.rw_pb0494_01.Holds := by
  exact Mine.top
