import PyProof.Rows.All
import Wide.All
import OpenK.AllK
import Wide.FinOn
import Lean
import PySem.Challenge.RW_on0187_01
open PySem PySem.W PySem.Calls PyProof.Rows
set_option Elab.async false
set_option maxRecDepth 100000
set_option maxHeartbeats 2000000
set_option compiler.extract_closed false
namespace Mine

noncomputable abbrev pg : Program := PySem.Challenge.pw_on0187_01
/-- the i-th statement of the text; the j-th of the class that is the i-th -/
noncomputable def stmtAt (i : Nat) : Stmt := pg.main.body.getD i (.Pass ⟨0, 0, 0, 0⟩)
noncomputable def bodyOf : Stmt → List Stmt
  | .ClassDef _ _ _ b _ _ _ _ _ _ _ => b
  | .FunctionDef _ _ b _ _ _ _ _ _ _ => b
  | _ => []
noncomputable def methAt (i j : Nat) : Stmt := (bodyOf (stmtAt i)).getD j (.Pass ⟨0, 0, 0, 0⟩)
/-- the object of a def that binds no default and captures nothing -/
noncomputable def fnO (st : Stmt) (qual : Str) (pm : Value) (cd : Addr) : Obj := match st with
  | .FunctionDef name args body _ _ _ scope _ _ _ => { cls := .type "function", data := .func (fnOf name qual args body scope .none .none .none pm none (.ref cd) .none) }
  | _ => default
noncomputable def codeO (vs : List Value) : Obj := { cls := .type "code", data := .fields vs.toArray }
noncomputable def de (P : Params) (k : String) (t : Tok) (v : Value) : DictEntry := ⟨PyData.keyHash P (PySem.Str.ofString k), .str (PySem.Str.ofString k) t, v⟩
/-- the part of the top's heap that the walks look at -/
noncomputable def K : Params → Frag := fun P =>
  ((nat_lit 3 : Nat), dictOf [de P "__name__" 165 (.str (PySem.Str.ofString "law_on0187_01") 622),
      de P "__doc__" 166 (.none),
      de P "__package__" 167 (.none),
      de P "__loader__" 168 (.builtin "__main__.__loader__#opaque"),
      de P "__spec__" 169 (.none),
      de P "__annotations__" 170 (.ref 6),
      de P "__builtins__" 171 (.ref 4),
      de P "__file__" 173 (.str (PySem.Str.ofString "/claim/cut.py") 172),
      de P "__cached__" 174 (.none),
      de P "_wall" 193 (.ref 21),
      de P "ancestors" 205 (.ref 28),
      de P "namespaces_in_scope" 211 (.ref 33),
      de P "XML_URI" 215 (.str (PySem.Str.ofString "http://www.w3.org/XML/1998/namespace") 214),
      de P "lines_down" 224 (.ref 40),
      de P "place_among" 234 (.ref 47),
      de P "place_of" 246 (.ref 54),
      de P "in_order" 252 (.ref 59),
      de P "is_before" 261 (.ref 66),
      de P "scope_of" 274 (.ref 73),
      de P "MarkupError" 305 (.ref 90),
      de P "TreeFault" 321 (.ref 103),
      de P "PARENTS" 326 (.ref 106),
      de P "NodeRow" 368 (.ref 123),
      de P "Tree" 621 (.ref 312),
      de P "_law_pool" 634 (.ref 323),
      de P "_law_take" 643 (.ref 330),
      de P "_law_one" 651 (.ref 337),
      de P "_law_made" 657 (.ref 342),
      de P "_law_line" 666 (.ref 349),
      de P "_law_due" 672 (.ref 354),
      de P "_law_told_right" 682 (.ref 361),
      de P "law" 688 (.ref 366)] 32) ::
  ((nat_lit 27 : Nat), codeO [.str (PySem.Str.ofString "ancestors") 196, .str (PySem.Str.ofString "ancestors") 197, .str (PySem.Str.ofString "/claim/cut.py") 198, .int 5 0, .int 2 0, .int 0 0, .int 0 0, .int 3 0, .ref 22, .bool true, .int 181 0, .ref 23, .none, .ref 24, .ref 25, .ref 26, .int 203 0, .int 5 0, .str (PySem.Str.ofString "/claim/cut.py") 204]) ::
  ((nat_lit 28 : Nat), fnO (stmtAt 2) (PySem.Str.ofString "ancestors") (.str (PySem.Str.ofString "markupmill.axes") 194) 27) ::
  ((nat_lit 32 : Nat), codeO [.str (PySem.Str.ofString "namespaces_in_scope") 206, .str (PySem.Str.ofString "namespaces_in_scope") 207, .str (PySem.Str.ofString "/claim/cut.py") 208, .int 11 0, .int 2 0, .int 0 0, .int 0 0, .int 3 0, .ref 29, .bool true, .int 181 0, .ref 30, .none, .none, .none, .ref 31, .int 209 0, .int 11 0, .str (PySem.Str.ofString "/claim/cut.py") 210]) ::
  ((nat_lit 33 : Nat), fnO (stmtAt 3) (PySem.Str.ofString "namespaces_in_scope") (.str (PySem.Str.ofString "markupmill.axes") 194) 32) ::
  ((nat_lit 39 : Nat), codeO [.str (PySem.Str.ofString "lines_down") 216, .str (PySem.Str.ofString "lines_down") 217, .str (PySem.Str.ofString "/claim/cut.py") 218, .int 26 0, .int 2 0, .int 0 0, .int 0 0, .int 3 0, .ref 34, .bool true, .int 181 0, .ref 35, .none, .ref 36, .ref 37, .ref 38, .int 222 0, .int 26 0, .str (PySem.Str.ofString "/claim/cut.py") 223]) ::
  ((nat_lit 40 : Nat), fnO (stmtAt 6) (PySem.Str.ofString "lines_down") (.str (PySem.Str.ofString "markupmill.order") 212) 39) ::
  ((nat_lit 46 : Nat), codeO [.str (PySem.Str.ofString "place_among") 225, .str (PySem.Str.ofString "place_among") 226, .str (PySem.Str.ofString "/claim/cut.py") 227, .int 32 0, .int 3 0, .int 0 0, .int 0 0, .int 3 0, .ref 41, .bool true, .int 181 0, .ref 42, .none, .ref 43, .ref 44, .ref 45, .int 232 0, .int 32 0, .str (PySem.Str.ofString "/claim/cut.py") 233]) ::
  ((nat_lit 47 : Nat), fnO (stmtAt 7) (PySem.Str.ofString "place_among") (.str (PySem.Str.ofString "markupmill.order") 212) 46) ::
  ((nat_lit 53 : Nat), codeO [.str (PySem.Str.ofString "place_of") 235, .str (PySem.Str.ofString "place_of") 236, .str (PySem.Str.ofString "/claim/cut.py") 237, .int 39 0, .int 2 0, .int 0 0, .int 0 0, .int 3 0, .ref 48, .bool true, .int 181 0, .ref 49, .none, .ref 50, .ref 51, .ref 52, .int 244 0, .int 39 0, .str (PySem.Str.ofString "/claim/cut.py") 245]) ::
  ((nat_lit 54 : Nat), fnO (stmtAt 8) (PySem.Str.ofString "place_of") (.str (PySem.Str.ofString "markupmill.order") 212) 53) ::
  ((nat_lit 58 : Nat), codeO [.str (PySem.Str.ofString "in_order") 247, .str (PySem.Str.ofString "in_order") 248, .str (PySem.Str.ofString "/claim/cut.py") 249, .int 45 0, .int 2 0, .int 0 0, .int 0 0, .int 3 0, .ref 55, .bool true, .int 181 0, .ref 56, .none, .none, .none, .ref 57, .int 250 0, .int 45 0, .str (PySem.Str.ofString "/claim/cut.py") 251]) ::
  ((nat_lit 59 : Nat), fnO (stmtAt 9) (PySem.Str.ofString "in_order") (.str (PySem.Str.ofString "markupmill.order") 212) 58) ::
  ((nat_lit 65 : Nat), codeO [.str (PySem.Str.ofString "is_before") 253, .str (PySem.Str.ofString "is_before") 254, .str (PySem.Str.ofString "/claim/cut.py") 255, .int 48 0, .int 3 0, .int 0 0, .int 0 0, .int 3 0, .ref 60, .bool true, .int 181 0, .ref 61, .none, .ref 62, .ref 63, .ref 64, .int 259 0, .int 48 0, .str (PySem.Str.ofString "/claim/cut.py") 260]) ::
  ((nat_lit 66 : Nat), fnO (stmtAt 10) (PySem.Str.ofString "is_before") (.str (PySem.Str.ofString "markupmill.order") 212) 65) ::
  ((nat_lit 72 : Nat), codeO [.str (PySem.Str.ofString "scope_of") 262, .str (PySem.Str.ofString "scope_of") 263, .str (PySem.Str.ofString "/claim/cut.py") 264, .int 50 0, .int 2 0, .int 0 0, .int 0 0, .int 3 0, .ref 67, .bool true, .int 181 0, .ref 68, .none, .ref 69, .ref 70, .ref 71, .int 272 0, .int 50 0, .str (PySem.Str.ofString "/claim/cut.py") 273]) ::
  ((nat_lit 73 : Nat), fnO (stmtAt 11) (PySem.Str.ofString "scope_of") (.str (PySem.Str.ofString "markupmill.order") 212) 72) ::
  ((nat_lit 106 : Nat), { cls := .type "tuple", data := .seq #[.str (PySem.Str.ofString "root") 324, .str (PySem.Str.ofString "element") 325] 0 }) ::
  ((nat_lit 119 : Nat), codeO [.str (PySem.Str.ofString "__init__") 339, .str (PySem.Str.ofString "NodeRow.__init__") 340, .str (PySem.Str.ofString "/claim/cut.py") 341, .int 72 0, .int 7 0, .int 0 0, .int 0 0, .int 3 0, .ref 114, .bool true, .int 181 0, .ref 115, .none, .ref 116, .ref 117, .ref 118, .int 349 0, .int 72 0, .str (PySem.Str.ofString "/claim/cut.py") 350]) ::
  ((nat_lit 120 : Nat), fnO (methAt 17 0) (PySem.Str.ofString "NodeRow.__init__") (.str (PySem.Str.ofString "markupmill.tree") 322) 119) ::
  ((nat_lit 122 : Nat), dictOf [de P "__module__" 334 (.str (PySem.Str.ofString "markupmill.tree") 322),
      de P "__firstlineno__" 338 (.int 70 337),
      de P "__init__" 351 (.ref 120),
      de P "__static_attributes__" 361 (.ref 121),
      de P "__dict__" 363 (.ref 124),
      de P "__weakref__" 365 (.ref 125),
      de P "__doc__" 366 (.none)] 4) ::
  ((nat_lit 123 : Nat), { cls := .type "type", slots := #[none, none, some (.str (PySem.Str.ofString "NodeRow") 327), some (.str (PySem.Str.ofString "NodeRow") 335), some (.builtin "object.__new__"), some (.bool true)], data := .cls { name := (PySem.Str.ofString "NodeRow"), bases := [.type "object"], mro := [.ref 123, .type "object"], ns := 122, qualname := (PySem.Str.ofString "NodeRow") } }) ::
  ((nat_lit 140 : Nat), codeO [.str (PySem.Str.ofString "__init__") 381, .str (PySem.Str.ofString "Tree.__init__") 382, .str (PySem.Str.ofString "/claim/cut.py") 383, .int 84 0, .int 1 0, .int 0 0, .int 0 0, .int 3 0, .ref 135, .bool true, .int 181 0, .ref 136, .none, .ref 137, .ref 138, .ref 139, .int 385 0, .int 84 0, .str (PySem.Str.ofString "/claim/cut.py") 386]) ::
  ((nat_lit 141 : Nat), fnO (methAt 18 0) (PySem.Str.ofString "Tree.__init__") (.str (PySem.Str.ofString "markupmill.tree") 322) 140) ::
  ((nat_lit 147 : Nat), codeO [.str (PySem.Str.ofString "new_row") 388, .str (PySem.Str.ofString "Tree.new_row") 389, .str (PySem.Str.ofString "/claim/cut.py") 390, .int 87 0, .int 7 0, .int 0 0, .int 0 0, .int 3 0, .ref 142, .bool true, .int 181 0, .ref 143, .none, .ref 144, .ref 145, .ref 146, .int 398 0, .int 87 0, .str (PySem.Str.ofString "/claim/cut.py") 399]) ::
  ((nat_lit 148 : Nat), fnO (methAt 18 1) (PySem.Str.ofString "Tree.new_row") (.str (PySem.Str.ofString "markupmill.tree") 322) 147) ::
  ((nat_lit 154 : Nat), codeO [.str (PySem.Str.ofString "row") 401, .str (PySem.Str.ofString "Tree.row") 402, .str (PySem.Str.ofString "/claim/cut.py") 403, .int 91 0, .int 2 0, .int 0 0, .int 0 0, .int 3 0, .ref 149, .bool true, .int 181 0, .ref 150, .none, .ref 151, .ref 152, .ref 153, .int 406 0, .int 91 0, .str (PySem.Str.ofString "/claim/cut.py") 407]) ::
  ((nat_lit 155 : Nat), fnO (methAt 18 2) (PySem.Str.ofString "Tree.row") (.str (PySem.Str.ofString "markupmill.tree") 322) 154) ::
  ((nat_lit 161 : Nat), codeO [.str (PySem.Str.ofString "new_root") 409, .str (PySem.Str.ofString "Tree.new_root") 410, .str (PySem.Str.ofString "/claim/cut.py") 411, .int 96 0, .int 1 0, .int 0 0, .int 0 0, .int 3 0, .ref 156, .bool true, .int 181 0, .ref 157, .none, .ref 158, .ref 159, .ref 160, .int 413 0, .int 96 0, .str (PySem.Str.ofString "/claim/cut.py") 414]) ::
  ((nat_lit 162 : Nat), fnO (methAt 18 3) (PySem.Str.ofString "Tree.new_root") (.str (PySem.Str.ofString "markupmill.tree") 322) 161) ::
  ((nat_lit 168 : Nat), codeO [.str (PySem.Str.ofString "add_child") 416, .str (PySem.Str.ofString "Tree.add_child") 417, .str (PySem.Str.ofString "/claim/cut.py") 418, .int 99 0, .int 7 0, .int 0 0, .int 0 0, .int 3 0, .ref 163, .bool true, .int 181 0, .ref 164, .none, .ref 165, .ref 166, .ref 167, .int 427 0, .int 99 0, .str (PySem.Str.ofString "/claim/cut.py") 428]) ::
  ((nat_lit 169 : Nat), fnO (methAt 18 4) (PySem.Str.ofString "Tree.add_child") (.str (PySem.Str.ofString "markupmill.tree") 322) 168) ::
  ((nat_lit 175 : Nat), codeO [.str (PySem.Str.ofString "add_element") 430, .str (PySem.Str.ofString "Tree.add_element") 431, .str (PySem.Str.ofString "/claim/cut.py") 432, .int 107 0, .int 5 0, .int 0 0, .int 0 0, .int 3 0, .ref 170, .bool true, .int 181 0, .ref 171, .none, .ref 172, .ref 173, .ref 174, .int 438 0, .int 107 0, .str (PySem.Str.ofString "/claim/cut.py") 439]) ::
  ((nat_lit 176 : Nat), fnO (methAt 18 5) (PySem.Str.ofString "Tree.add_element") (.str (PySem.Str.ofString "markupmill.tree") 322) 175) ::
  ((nat_lit 182 : Nat), codeO [.str (PySem.Str.ofString "add_text") 441, .str (PySem.Str.ofString "Tree.add_text") 442, .str (PySem.Str.ofString "/claim/cut.py") 443, .int 110 0, .int 3 0, .int 0 0, .int 0 0, .int 3 0, .ref 177, .bool true, .int 181 0, .ref 178, .none, .ref 179, .ref 180, .ref 181, .int 447 0, .int 110 0, .str (PySem.Str.ofString "/claim/cut.py") 448]) ::
  ((nat_lit 183 : Nat), fnO (methAt 18 6) (PySem.Str.ofString "Tree.add_text") (.str (PySem.Str.ofString "markupmill.tree") 322) 182) ::
  ((nat_lit 203 : Nat), codeO [.str (PySem.Str.ofString "element_row") 469, .str (PySem.Str.ofString "Tree.element_row") 470, .str (PySem.Str.ofString "/claim/cut.py") 471, .int 119 0, .int 2 0, .int 0 0, .int 0 0, .int 3 0, .ref 198, .bool true, .int 181 0, .ref 199, .none, .ref 200, .ref 201, .ref 202, .int 475 0, .int 119 0, .str (PySem.Str.ofString "/claim/cut.py") 476]) ::
  ((nat_lit 204 : Nat), fnO (methAt 18 9) (PySem.Str.ofString "Tree.element_row") (.str (PySem.Str.ofString "markupmill.tree") 322) 203) ::
  ((nat_lit 210 : Nat), codeO [.str (PySem.Str.ofString "set_attribute") 478, .str (PySem.Str.ofString "Tree.set_attribute") 479, .str (PySem.Str.ofString "/claim/cut.py") 480, .int 125 0, .int 6 0, .int 0 0, .int 0 0, .int 3 0, .ref 205, .bool true, .int 181 0, .ref 206, .none, .ref 207, .ref 208, .ref 209, .int 490 0, .int 125 0, .str (PySem.Str.ofString "/claim/cut.py") 491]) ::
  ((nat_lit 211 : Nat), fnO (methAt 18 10) (PySem.Str.ofString "Tree.set_attribute") (.str (PySem.Str.ofString "markupmill.tree") 322) 210) ::
  ((nat_lit 217 : Nat), codeO [.str (PySem.Str.ofString "add_namespace") 493, .str (PySem.Str.ofString "Tree.add_namespace") 494, .str (PySem.Str.ofString "/claim/cut.py") 495, .int 137 0, .int 4 0, .int 0 0, .int 0 0, .int 3 0, .ref 212, .bool true, .int 181 0, .ref 213, .none, .ref 214, .ref 215, .ref 216, .int 502 0, .int 137 0, .str (PySem.Str.ofString "/claim/cut.py") 503]) ::
  ((nat_lit 218 : Nat), fnO (methAt 18 11) (PySem.Str.ofString "Tree.add_namespace") (.str (PySem.Str.ofString "markupmill.tree") 322) 217) ::
  ((nat_lit 231 : Nat), codeO [.str (PySem.Str.ofString "kind") 514, .str (PySem.Str.ofString "Tree.kind") 515, .str (PySem.Str.ofString "/claim/cut.py") 516, .int 150 0, .int 2 0, .int 0 0, .int 0 0, .int 3 0, .ref 226, .bool true, .int 181 0, .ref 227, .none, .ref 228, .ref 229, .ref 230, .int 519 0, .int 150 0, .str (PySem.Str.ofString "/claim/cut.py") 520]) ::
  ((nat_lit 232 : Nat), fnO (methAt 18 13) (PySem.Str.ofString "Tree.kind") (.str (PySem.Str.ofString "markupmill.tree") 322) 231) ::
  ((nat_lit 238 : Nat), codeO [.str (PySem.Str.ofString "name") 522, .str (PySem.Str.ofString "Tree.name") 523, .str (PySem.Str.ofString "/claim/cut.py") 524, .int 153 0, .int 2 0, .int 0 0, .int 0 0, .int 3 0, .ref 233, .bool true, .int 181 0, .ref 234, .none, .ref 235, .ref 236, .ref 237, .int 527 0, .int 153 0, .str (PySem.Str.ofString "/claim/cut.py") 528]) ::
  ((nat_lit 239 : Nat), fnO (methAt 18 14) (PySem.Str.ofString "Tree.name") (.str (PySem.Str.ofString "markupmill.tree") 322) 238) ::
  ((nat_lit 259 : Nat), codeO [.str (PySem.Str.ofString "value") 546, .str (PySem.Str.ofString "Tree.value") 547, .str (PySem.Str.ofString "/claim/cut.py") 548, .int 162 0, .int 2 0, .int 0 0, .int 0 0, .int 3 0, .ref 254, .bool true, .int 181 0, .ref 255, .none, .ref 256, .ref 257, .ref 258, .int 551 0, .int 162 0, .str (PySem.Str.ofString "/claim/cut.py") 552]) ::
  ((nat_lit 260 : Nat), fnO (methAt 18 17) (PySem.Str.ofString "Tree.value") (.str (PySem.Str.ofString "markupmill.tree") 322) 259) ::
  ((nat_lit 266 : Nat), codeO [.str (PySem.Str.ofString "parent") 554, .str (PySem.Str.ofString "Tree.parent") 555, .str (PySem.Str.ofString "/claim/cut.py") 556, .int 165 0, .int 2 0, .int 0 0, .int 0 0, .int 3 0, .ref 261, .bool true, .int 181 0, .ref 262, .none, .ref 263, .ref 264, .ref 265, .int 559 0, .int 165 0, .str (PySem.Str.ofString "/claim/cut.py") 560]) ::
  ((nat_lit 267 : Nat), fnO (methAt 18 18) (PySem.Str.ofString "Tree.parent") (.str (PySem.Str.ofString "markupmill.tree") 322) 266) ::
  ((nat_lit 273 : Nat), codeO [.str (PySem.Str.ofString "children") 562, .str (PySem.Str.ofString "Tree.children") 563, .str (PySem.Str.ofString "/claim/cut.py") 564, .int 168 0, .int 2 0, .int 0 0, .int 0 0, .int 3 0, .ref 268, .bool true, .int 181 0, .ref 269, .none, .ref 270, .ref 271, .ref 272, .int 567 0, .int 168 0, .str (PySem.Str.ofString "/claim/cut.py") 568]) ::
  ((nat_lit 274 : Nat), fnO (methAt 18 19) (PySem.Str.ofString "Tree.children") (.str (PySem.Str.ofString "markupmill.tree") 322) 273) ::
  ((nat_lit 280 : Nat), codeO [.str (PySem.Str.ofString "attributes") 570, .str (PySem.Str.ofString "Tree.attributes") 571, .str (PySem.Str.ofString "/claim/cut.py") 572, .int 171 0, .int 2 0, .int 0 0, .int 0 0, .int 3 0, .ref 275, .bool true, .int 181 0, .ref 276, .none, .ref 277, .ref 278, .ref 279, .int 575 0, .int 171 0, .str (PySem.Str.ofString "/claim/cut.py") 576]) ::
  ((nat_lit 281 : Nat), fnO (methAt 18 20) (PySem.Str.ofString "Tree.attributes") (.str (PySem.Str.ofString "markupmill.tree") 322) 280) ::
  ((nat_lit 287 : Nat), codeO [.str (PySem.Str.ofString "namespaces") 578, .str (PySem.Str.ofString "Tree.namespaces") 579, .str (PySem.Str.ofString "/claim/cut.py") 580, .int 174 0, .int 2 0, .int 0 0, .int 0 0, .int 3 0, .ref 282, .bool true, .int 181 0, .ref 283, .none, .ref 284, .ref 285, .ref 286, .int 583 0, .int 174 0, .str (PySem.Str.ofString "/claim/cut.py") 584]) ::
  ((nat_lit 288 : Nat), fnO (methAt 18 21) (PySem.Str.ofString "Tree.namespaces") (.str (PySem.Str.ofString "markupmill.tree") 322) 287) ::
  ((nat_lit 311 : Nat), dictOf [de P "__module__" 376 (.str (PySem.Str.ofString "markupmill.tree") 322),
      de P "__firstlineno__" 380 (.int 82 379),
      de P "__init__" 387 (.ref 141),
      de P "new_row" 400 (.ref 148),
      de P "row" 408 (.ref 155),
      de P "new_root" 415 (.ref 162),
      de P "add_child" 429 (.ref 169),
      de P "add_element" 440 (.ref 176),
      de P "add_text" 449 (.ref 183),
      de P "add_comment" 458 (.ref 190),
      de P "add_instruction" 468 (.ref 197),
      de P "element_row" 477 (.ref 204),
      de P "set_attribute" 492 (.ref 211),
      de P "add_namespace" 504 (.ref 218),
      de P "set_value" 513 (.ref 225),
      de P "kind" 521 (.ref 232),
      de P "name" 529 (.ref 239),
      de P "uri" 537 (.ref 246),
      de P "local" 545 (.ref 253),
      de P "value" 553 (.ref 260),
      de P "parent" 561 (.ref 267),
      de P "children" 569 (.ref 274),
      de P "attributes" 577 (.ref 281),
      de P "namespaces" 585 (.ref 288),
      de P "root_of" 593 (.ref 295),
      de P "is_above" 602 (.ref 302),
      de P "attribute_value" 612 (.ref 309),
      de P "__static_attributes__" 614 (.ref 310),
      de P "__dict__" 616 (.ref 313),
      de P "__weakref__" 618 (.ref 314),
      de P "__doc__" 619 (.none)] 4) ::
  ((nat_lit 312 : Nat), { cls := .type "type", slots := #[none, none, some (.str (PySem.Str.ofString "Tree") 369), some (.str (PySem.Str.ofString "Tree") 377), some (.builtin "object.__new__"), some (.bool true)], data := .cls { name := (PySem.Str.ofString "Tree"), bases := [.type "object"], mro := [.ref 312, .type "object"], ns := 311, qualname := (PySem.Str.ofString "Tree") } }) ::
  ((nat_lit 322 : Nat), codeO [.str (PySem.Str.ofString "_law_pool") 624, .str (PySem.Str.ofString "_law_pool") 625, .str (PySem.Str.ofString "/claim/cut.py") 626, .int 186 0, .int 2 0, .int 0 0, .int 0 0, .int 3 0, .ref 317, .bool true, .int 181 0, .ref 318, .none, .ref 319, .ref 320, .ref 321, .int 632 0, .int 186 0, .str (PySem.Str.ofString "/claim/cut.py") 633]) ::
  ((nat_lit 323 : Nat), fnO (stmtAt 20) (PySem.Str.ofString "_law_pool") (.str (PySem.Str.ofString "law_on0187_01") 622) 322) ::
  ((nat_lit 329 : Nat), codeO [.str (PySem.Str.ofString "_law_take") 635, .str (PySem.Str.ofString "_law_take") 636, .str (PySem.Str.ofString "/claim/cut.py") 637, .int 193 0, .int 2 0, .int 0 0, .int 0 0, .int 3 0, .ref 324, .bool true, .int 181 0, .ref 325, .none, .ref 326, .ref 327, .ref 328, .int 641 0, .int 193 0, .str (PySem.Str.ofString "/claim/cut.py") 642]) ::
  ((nat_lit 330 : Nat), fnO (stmtAt 21) (PySem.Str.ofString "_law_take") (.str (PySem.Str.ofString "law_on0187_01") 622) 329) ::
  ((nat_lit 336 : Nat), codeO [.str (PySem.Str.ofString "_law_one") 644, .str (PySem.Str.ofString "_law_one") 645, .str (PySem.Str.ofString "/claim/cut.py") 646, .int 200 0, .int 2 0, .int 0 0, .int 0 0, .int 3 0, .ref 331, .bool true, .int 181 0, .ref 332, .none, .ref 333, .ref 334, .ref 335, .int 649 0, .int 200 0, .str (PySem.Str.ofString "/claim/cut.py") 650]) ::
  ((nat_lit 337 : Nat), fnO (stmtAt 22) (PySem.Str.ofString "_law_one") (.str (PySem.Str.ofString "law_on0187_01") 622) 336) ::
  ((nat_lit 341 : Nat), codeO [.str (PySem.Str.ofString "_law_made") 652, .str (PySem.Str.ofString "_law_made") 653, .str (PySem.Str.ofString "/claim/cut.py") 654, .int 202 0, .int 2 0, .int 0 0, .int 0 0, .int 3 0, .ref 338, .bool true, .int 181 0, .ref 339, .none, .none, .none, .ref 340, .int 655 0, .int 202 0, .str (PySem.Str.ofString "/claim/cut.py") 656]) ::
  ((nat_lit 342 : Nat), fnO (stmtAt 23) (PySem.Str.ofString "_law_made") (.str (PySem.Str.ofString "law_on0187_01") 622) 341) ::
  ((nat_lit 348 : Nat), codeO [.str (PySem.Str.ofString "_law_line") 658, .str (PySem.Str.ofString "_law_line") 659, .str (PySem.Str.ofString "/claim/cut.py") 660, .int 221 0, .int 2 0, .int 0 0, .int 0 0, .int 3 0, .ref 343, .bool true, .int 181 0, .ref 344, .none, .ref 345, .ref 346, .ref 347, .int 664 0, .int 221 0, .str (PySem.Str.ofString "/claim/cut.py") 665]) ::
  ((nat_lit 349 : Nat), fnO (stmtAt 24) (PySem.Str.ofString "_law_line") (.str (PySem.Str.ofString "law_on0187_01") 622) 348) ::
  ((nat_lit 353 : Nat), codeO [.str (PySem.Str.ofString "_law_due") 667, .str (PySem.Str.ofString "_law_due") 668, .str (PySem.Str.ofString "/claim/cut.py") 669, .int 227 0, .int 3 0, .int 0 0, .int 0 0, .int 3 0, .ref 350, .bool true, .int 181 0, .ref 351, .none, .none, .none, .ref 352, .int 670 0, .int 227 0, .str (PySem.Str.ofString "/claim/cut.py") 671]) ::
  ((nat_lit 354 : Nat), fnO (stmtAt 25) (PySem.Str.ofString "_law_due") (.str (PySem.Str.ofString "law_on0187_01") 622) 353) ::
  ((nat_lit 360 : Nat), codeO [.str (PySem.Str.ofString "_law_told_right") 673, .str (PySem.Str.ofString "_law_told_right") 674, .str (PySem.Str.ofString "/claim/cut.py") 675, .int 237 0, .int 0 0, .int 0 0, .int 0 0, .int 3 0, .ref 355, .bool true, .int 181 0, .ref 356, .none, .ref 357, .ref 358, .ref 359, .int 680 0, .int 237 0, .str (PySem.Str.ofString "/claim/cut.py") 681]) ::
  ((nat_lit 361 : Nat), fnO (stmtAt 26) (PySem.Str.ofString "_law_told_right") (.str (PySem.Str.ofString "law_on0187_01") 622) 360) ::
  ((nat_lit 365 : Nat), codeO [.str (PySem.Str.ofString "law") 683, .str (PySem.Str.ofString "law") 684, .str (PySem.Str.ofString "/claim/cut.py") 685, .int 246 0, .int 1 0, .int 0 0, .int 0 0, .int 3 0, .ref 362, .bool true, .int 181 0, .ref 363, .none, .none, .none, .ref 364, .int 686 0, .int 246 0, .str (PySem.Str.ofString "/claim/cut.py") 687]) ::
  ((nat_lit 366 : Nat), fnO (stmtAt 27) (PySem.Str.ofString "law") (.str (PySem.Str.ofString "law_on0187_01") 622) 365) ::
  []
noncomputable def Kas : List Addr := [3, 27, 28, 32, 33, 39, 40, 46, 47, 53, 54, 58, 59, 65, 66, 72, 73, 106, 119, 120, 122, 123, 140, 141, 147, 148, 154, 155, 161, 162, 168, 169, 175, 176, 182, 183, 203, 204, 210, 211, 217, 218, 231, 232, 238, 239, 259, 260, 266, 267, 273, 274, 280, 281, 287, 288, 311, 312, 322, 323, 329, 330, 336, 337, 341, 342, 348, 349, 353, 354, 360, 361, 365, 366]
noncomputable def loose : List Str := [(PySem.Str.ofString "__name__"), (PySem.Str.ofString "_wall"), (PySem.Str.ofString "ancestors"), (PySem.Str.ofString "namespaces_in_scope"), (PySem.Str.ofString "XML_URI"), (PySem.Str.ofString "lines_down"), (PySem.Str.ofString "place_among"), (PySem.Str.ofString "place_of"), (PySem.Str.ofString "in_order"), (PySem.Str.ofString "is_before"), (PySem.Str.ofString "scope_of"), (PySem.Str.ofString "MarkupError"), (PySem.Str.ofString "TreeFault"), (PySem.Str.ofString "PARENTS"), (PySem.Str.ofString "NodeRow"), (PySem.Str.ofString "Tree"), (PySem.Str.ofString "_law_pool"), (PySem.Str.ofString "_law_take"), (PySem.Str.ofString "_law_one"), (PySem.Str.ofString "_law_made"), (PySem.Str.ofString "_law_line"), (PySem.Str.ofString "_law_due"), (PySem.Str.ofString "_law_told_right")]

/-- the view: the law's def alone -/
noncomputable def view : Program := { pg with main := { pg.main with body := [stmtAt 27] } }
noncomputable abbrev hook : Hook := kmHook K Kas (fun _ => by kernel_rfl) [56]
noncomputable abbrev row : OpenRow := PySem.Challenge.rw_on0187_01.row
set_option maxHeartbeats 0 in
/-- the top's run, checked at once -/
theorem left : LeftO pg view loose (fun s => xlAt view [] s && recOk (RowW.records row.toRowW) s) (Hook.obs hook) (Hook.val hook) 4676 := fun w => by kernel_rfl
set_option maxHeartbeats 0 in
theorem said : PySem.Challenge.rw_on0187_01.wellSaid = true := by kernel_rfl
noncomputable abbrev prg : Program := PySem.Challenge.rw_on0187_01.row.prog

/-- a list object with these items -/
noncomputable def LstAt (h : Heap) (a : Addr) (vs : List Value) : Prop := ∃ n, h.get? a = some (listOf vs.toArray n)
/-- a list object of node numbers -/
noncomputable def IdsAt (h : Heap) (a : Addr) (ns : List Nat) : Prop := ∃ vs, LstAt h a vs ∧ IntsAre vs (ns.map Int.ofNat)

structure Row where
  a : Addr
  d : Addr
  c : Addr
  t : Addr
  n : Addr
  kind : Str
  name : Str
  uri : Str
  loc : Str
  value : Str
  par : Option Nat
  ch : List Nat
  ats : List Nat
  nss : List Nat

noncomputable def parV : Option Nat → Tok → Value
  | none, _ => .none
  | some i, t => .int (i : Int) t

noncomputable def RowDict (P : Params) (r : Row) (o : Obj) : Prop :=
  ∃ t1 t2 t3 t4 t5 t6 t7 t8 t9 u1 u2 u3 u4 u5 u6 n, o = dictOf [de P "kind" t1 (.str r.kind u1), de P "name" t2 (.str r.name u2), de P "uri" t3 (.str r.uri u3), de P "local" t4 (.str r.loc u4),
    de P "value" t5 (.str r.value u5), de P "parent" t6 (parV r.par u6), de P "children" t7 (.ref r.c), de P "attributes" t8 (.ref r.t), de P "namespaces" t9 (.ref r.n)] n

structure RowAt (P : Params) (h : Heap) (r : Row) : Prop where
  inst : h.get? r.a = some (instObj 123 r.d)
  dict : ∃ o, h.get? r.d = some o ∧ RowDict P r o
  ch : IdsAt h r.c r.ch
  ats : IdsAt h r.t r.ats
  nss : IdsAt h r.n r.nss
  small : r.ch.length ≤ 1000 ∧ r.ats.length ≤ 1000 ∧ r.nss.length ≤ 1000
  low : ∀ i, i ∈ r.ch ∨ i ∈ r.nss → i < 1000

structure TreeAt (P : Params) (h : Heap) (T dT R : Addr) (rs : List Row) : Prop where
  inst : h.get? T = some (instObj 312 dT)
  dict : ∃ t n, h.get? dT = some (dictOf [de P "rows" t (.ref R)] n)
  rows : LstAt h R (rs.map fun r => .ref r.a)
  all : ∀ r ∈ rs, RowAt P h r
  small : rs.length ≤ 1000

noncomputable abbrev Kp (h h' : Heap) : Prop := ∀ b o, h.get? b = some o → h'.get? b = some o
theorem LstAt.keeps {h h' : Heap} {a : Addr} {vs : List Value} (x : LstAt h a vs) (k : Kp h h') : LstAt h' a vs := let ⟨n, e⟩ := x; ⟨n, k _ _ e⟩
theorem IdsAt.keeps {h h' : Heap} {a : Addr} {ns : List Nat} (x : IdsAt h a ns) (k : Kp h h') : IdsAt h' a ns := let ⟨vs, e, i⟩ := x; ⟨vs, e.keeps k, i⟩
theorem RowAt.keeps {P : Params} {h h' : Heap} {r : Row} (x : RowAt P h r) (k : Kp h h') : RowAt P h' r :=
  ⟨k _ _ x.inst, let ⟨o, e, q⟩ := x.dict; ⟨o, k _ _ e, q⟩, x.ch.keeps k, x.ats.keeps k, x.nss.keeps k, x.small, x.low⟩
theorem TreeAt.keeps {P : Params} {h h' : Heap} {T dT R : Addr} {rs : List Row} (x : TreeAt P h T dT R rs) (k : Kp h h') : TreeAt P h' T dT R rs :=
  ⟨k _ _ x.inst, let ⟨t, n, e⟩ := x.dict; ⟨t, n, k _ _ e⟩, x.rows.keeps k, fun r hr => (x.all r hr).keeps k, x.small⟩
theorem LstAt.isList {h : Heap} {a : Addr} {vs : List Value} (x : LstAt h a vs) : h.IsList a vs.toArray := let ⟨n, e⟩ := x; ⟨_, e, rfl, n, rfl⟩

/-- what every walk knows of the heap below it -/
structure Bs (w : World) (p : Program) (loose : List Str) (mean : ExcName → Option Value) (mg mb : Str → Option Value) (b : Heap) : Prop where
  X : (K w.params).In b
  T : Top p loose mean mg mb b
theorem Bs.keeps {w : World} {p : Program} {loose : List Str} {mean : ExcName → Option Value} {mg mb : Str → Option Value} {b b' : Heap} (x : Bs w p loose mean mg mb b) (k : Kp b b') : Bs w p loose mean mg mb b' := ⟨x.X.keeps k, x.T.keeps k⟩

noncomputable abbrev noE : Value → Shared → Prop := fun _ _ => False

theorem fr_grow {h₀ h h' : Heap} {L : Addr} {m : Str → Option Value} (F : Fr h₀ L h m) (k : Kp h h') : Fr h₀ L h' m :=
  let ⟨oL, es, ep, hL, r⟩ := F.ns
  ⟨⟨oL, es, ep, k _ _ hL, r⟩, fun b o e => k _ _ (F.keep b o e), F.above⟩
theorem news_grow {h₀ h h' : Heap} {L : Addr} {news : List (Addr × Obj)} (N : News h₀ L h news) (k : Kp h h') : News h₀ L h' news :=
  fun p hp => ⟨k _ _ (N p hp).1, (N p hp).2⟩

/-- a read: what it does to the heap is growth -/
noncomputable def RO (w : World) (A : Around) (s : Shared) (t : Sem Value) (P : Value → Heap → Prop) : Prop :=
  ∀ (Q E : Value → Shared → Prop), (∀ v h' tk', Kp s.heap h' → P v h' → Q v { s with heap := h', toks := tk' }) → wpAny (model prg w) A t Q E s

section
variable {w : World} {p : Program} {loose : List Str} {mean : ExcName → Option Value} {mg mb : Str → Option Value} {A : Around} {s : Shared} {E : Value → Shared → Prop} {Q : Value → Shared → Prop}
variable {f cd : Addr} {st : Stmt} {qual : Str} {pm : Value}
variable {name : Str} {params : Arguments} {body : List Stmt} {dl : List Expr} {ret : Option Expr} {tps : List TypeParam} {scope : Scope} {ts : Option Scope} {bd : Str} {pos : Pos}

/-- a call of a def of the top's without cells: the base is the whole heap at the call -/
theorem enter (B : Bs w p loose mean mg mb s.heap) {vs : List Value} {binds : List (Str × Value)}
    (ho : (K w.params).lookup f = some (fnO st qual pm cd)) (hst : st = .FunctionDef name params body dl ret tps scope ts bd pos)
    (hcd : codeIn (K w.params) (.ref cd) qual = true) (hroom : A.depth < recursionLimit)
    (hbind : bindArgs (fnOf name qual params body scope .none .none .none pm none (.ref cd) .none) ⟨vs, []⟩ = pure binds) (hloc : (binds.all fun x => decide (scope.names.lookup x.1 = some .local)) = true)
    (h : ∀ h₁ tk, Fr s.heap s.heap.objs.size h₁ (fun y => binds.reverse.lookup y) →
      wpAny (model prg w) (A.deeper (envOf qual scope s.heap.objs.size f (.ref cd))) (execs body (envOf qual scope s.heap.objs.size f (.ref cd)))
        (fun fl s' => Q (match fl with | .ret v => v | _ => .none) s') noE { s with heap := h₁, toks := tk })
    (hco : scope.isCoroutine = false := by rfl) (hgen : scope.isGenerator = false := by rfl) (hk : scope.kind = .function := by rfl)
    (hcell : ∀ x ∈ scope.names, x.2 ≠ .cell := by decide) : wpAny (model prg w) A (call (.ref f) vs) Q E s := by
  subst hst
  refine wpAny_call ?_
  refine codeAny_call_def (fd := fnOf name qual params body scope .none .none .none pm none (.ref cd) .none) (body := body) (binds := binds) hroom (B.X _ _ ho) rfl B.T.nolimit (codeRec_of B.X hcd) rfl (BindsTo.of_eq hbind) hcell (locs hloc) (fun h₁ hns hk₁ => ?_) hco hgen hk
  exact wpAny_mono (h h₁ _ ⟨hns, hk₁, Nat.le_refl _⟩) (fun fl s' q => q) fun e s' q => q.elim
end
theorem inst_of_base {h₀ h : Heap} {L x C dx : Addr} {m : Str → Option Value} {od : Obj} {sl : Array (Option Value)} (F : Fr h₀ L h m) (h1 : h₀.get? x = some ⟨.ref C, some dx, .plain, sl⟩) (h2 : h₀.get? dx = some od) :
    W.InstAt h x ⟨.ref C, some dx, .plain, sl⟩ C (some od) := ⟨F.keep _ _ h1, rfl, rfl, F.keep _ _ h2⟩
theorem len_base {w : World} {A : Around} {E : Value → Shared → Prop} {s : Shared} {h₀ : Heap} {L a : Addr} {m : Str → Option Value} {vs : List Value} {Q : Value → Shared → Prop} (F : Fr h₀ L s.heap m) (hl : LstAt h₀ a vs) (hs : (vs.length : Int) < 2 ^ 63)
    (h : Q (.int vs.length (s.toks + 1)) { s with toks := s.toks + 1 + 1 }) : wpAny (model prg w) A (call (.builtin "len") [.ref a]) Q E s :=
  call_len_list (hl.isList.at fun o e => F.keep _ _ e) (by rw [List.size_toArray]; exact hs) (by rw [List.size_toArray]; exact h)
theorem item_base {w : World} {A : Around} {E : Value → Shared → Prop} {s : Shared} {h₀ : Heap} {L a : Addr} {m : Str → Option Value} {vs : List Value} {value slice : Expr} {k : Int} {u : Tok} {v : Value} {Q : Value → Shared → Prop}
    (F : Fr h₀ L s.heap m) (hl : LstAt h₀ a vs) (h0 : 0 ≤ k) (hhi : k < 2 ^ 63) (hx : vs[k.toNat]? = some v) (h : Q v s)
    (hs : subscripted slice false (.ref a) (.int k u) = operate [.ref a, .int k u] (getItem (.ref a) (.int k u)) := by with_unfolding_all rfl) :
    wpAny (model prg w) A (subscriptTail value slice (.ref a) (.int k u)) Q E s :=
  have hL := hl.isList.at fun o e => F.keep _ _ e
  tail_any hL.typeIs slot_list_getitem.lookup (wpAny_getItem_list hL h0 hhi (by simpa using hx) h) hs
/-- names the written part and the row in a goal, for k_fill -/
theorem fill0 {P : Prop} (h : (∀ x : Params, ∃ y, y = (K x, PySem.Challenge.rw_on0187_01)) → P) : P := h fun _ => ⟨_, rfl⟩
theorem list_base {w : World} {A : Around} {E : Value → Shared → Prop} {s : Shared} {h₀ : Heap} {L l : Addr} {m : Str → Option Value} {news : List (Addr × Obj)} {vs : List Value} {Q : Value → Shared → Prop} (F : Fr h₀ L s.heap m) (N : News h₀ L s.heap news) (hl : LstAt h₀ l vs) (hsz : vs.length ≤ sizeLine)
    (h : ∀ D c h', Fr h₀ L h' m → News h₀ L h' ((D, listOf vs.toArray c) :: news) → (∀ q ∈ news, q.1 < D) → Q (.ref D) { s with heap := h' }) :
    wpAny (model prg w) A (call (.type "list") [.ref l]) Q E s := list_copyK F N (hl.isList.at fun o e => F.keep _ _ e) h (by rw [List.size_toArray]; exact hsz)
/-- a read, used in a frame -/
theorem useRO0 {w : World} {A : Around} {E : Value → Shared → Prop} {s : Shared} {h₀ : Heap} {L : Addr} {m : Str → Option Value} {news : List (Addr × Obj)} {t : Sem Value} {P : Value → Heap → Prop} {Q : Value → Shared → Prop} (F : Fr h₀ L s.heap m) (N : News h₀ L s.heap news) (c : RO w A s t P)
    (h : ∀ v h' tk', Kp s.heap h' → P v h' → Fr h₀ L h' m → News h₀ L h' news → Q v { s with heap := h', toks := tk' }) : wpAny (model prg w) A t Q E s :=
  c Q E fun v h' tk' k p => h v h' tk' k p (fr_grow F k) (news_grow N k)
theorem useRO {hpS : Heap} {gnS : Array GenState} {drS : Drawn} {tkS : Nat} {osS : OsState} {w : World} {A : Around} {E : Value → Shared → Prop} {h₀ : Heap} {L : Addr} {m : Str → Option Value} {news : List (Addr × Obj)} {t : Sem Value} {P : Value → Heap → Prop} {Q : Value → Shared → Prop} (F : Fr h₀ L hpS m) (N : News h₀ L hpS news) (c : RO w A (Shared.mk hpS gnS drS tkS osS) t P)
    (h : ∀ v h' tk', Kp hpS h' → P v h' → Fr h₀ L h' m → News h₀ L h' news → Q v (Shared.mk h' gnS drS tk' osS)) : wpAny (model prg w) A t Q E (Shared.mk hpS gnS drS tkS osS) :=
  useRO0 (s := (Shared.mk hpS gnS drS tkS osS)) F N c h
theorem IntsAre.len {vs : List Value} {ns : List Int} (h : IntsAre vs ns) : vs.length = ns.length := h.length
/-- a fresh list of node numbers -/
noncomputable def NewIds (h h' : Heap) (v : Value) (ns : List Nat) : Prop := ∃ l, v = .ref l ∧ IdsAt h' l ns ∧ h.get? l = none
theorem size_ids {vs : List Value} {ns : List Nat} (i : IntsAre vs (ns.map Int.ofNat)) (h : ns.length ≤ 1000) : vs.length ≤ sizeLine := by
  have := i.length
  rw [List.length_map] at this
  rw [sizeLine_eq]; omega
theorem handed_par (o : Option Nat) (u : Tok) : handedIn (parV o u) = true := by cases o <;> rfl
/-- the names that are known -/
noncomputable def Has (m : Str → Option Value) : List (Str × Value) → Prop
  | [] => True
  | p :: r => m p.1 = some p.2 ∧ Has m r
noncomputable def setL (m : Str → Option Value) : List (Str × Value) → Str → Option Value
  | [] => m
  | p :: r => fun y => if y = p.1 then some p.2 else setL m r y
theorem setL_eq {m : Str → Option Value} : ∀ {l : List (Str × Value)}, Has m l → setL m l = m
  | [], _ => rfl
  | p :: r, h => by
    funext y
    show (if y = p.1 then some p.2 else setL m r y) = m y
    by_cases hy : y = p.1
    · rw [if_pos hy, hy, h.1]
    · rw [if_neg hy, setL_eq h.2]
theorem fr_has {h₀ h : Heap} {L : Addr} {m : Str → Option Value} {l : List (Str × Value)} (F : Fr h₀ L h m) (e : Has m l) : Fr h₀ L h (setL m l) := by rw [setL_eq e]; exact F
/-- room for k more frames -/
structure Rm (A : Around) (k : Nat) : Prop where
  handled : A.handled = none
  depth : A.depth + k < recursionLimit
  units : A.units + 40 * k < cLine
theorem Rm.sub {A : Around} {env : Env} {k j : Nat} (h : Rm A k) (hj : j + 1 ≤ k) : Rm (A.deeper env) j :=
  ⟨h.handled, by have := h.depth; show A.depth + 1 + j < _; omega, by have := h.units; show A.units + 3 + 40 * j < _; omega⟩
theorem Rm.in1 {A : Around} {k j : Nat} (h : Rm A k) (hj : j + 1 ≤ k) : Rm A.in1 j :=
  ⟨h.handled, by have := h.depth; show A.depth + j < _; omega, by have := h.units; show A.units + 1 + 40 * j < _; omega⟩
theorem Rm.room {A : Around} {k : Nat} (h : Rm A k) : A.depth < recursionLimit := by have := h.depth; omega
/-- a mark at which the walk halts -/
noncomputable def Stop (P : Prop) : Prop := P
theorem stop_of {P : Prop} (h : Stop P) : P := h
theorem ne_l1 {a b : Nat} (h : a + 1 < b) : a ≠ b := by omega
theorem ne_l2 {a b : Nat} (h : a + 1 < b) : b ≠ a := by omega
theorem ne_l3 {a b : Nat} (h : a < b) : a ≠ b := Nat.ne_of_lt h
theorem ne_l4 {a b : Nat} (h : a < b) : b ≠ a := Nat.ne_of_gt h
theorem ne_l5 {a b : Nat} (h : a < b) : b + 1 ≠ a := by omega
theorem ne_l6 {a b : Nat} (h : a < b) : a ≠ b + 1 := by omega
theorem ne_l7 {a b : Nat} (h : a + 1 < b) : b + 1 ≠ a := by omega
theorem ne_l8 {a b : Nat} (h : a + 1 < b) : a ≠ b + 1 := by omega
theorem stop_ref {M : Model} {A : Around} {f : Addr} {vs : List Value} {Q E : Value → Shared → Prop} {s : Shared} (l : List Nat) (h : l.contains f = true) (g : Stop (wpAny M A (call (.ref f) vs) Q E s)) : wpAny M A (call (.ref f) vs) Q E s := g
theorem ids_snoc {vs : List Value} {ns : List Nat} (h : IntsAre vs (ns.map Int.ofNat)) (j : Nat) (u : Tok) : IntsAre (vs ++ [.int (j : Int) u]) ((ns ++ [j]).map Int.ofNat) := by
  induction ns generalizing vs with
  | nil => cases h; exact .cons _ _ .nil
  | cons a r ih => cases h with | cons n t h' => exact .cons _ _ (ih h')
theorem ids_size {vs : List Value} {ns : List Nat} (h : IntsAre vs (ns.map Int.ofNat)) : vs.length = ns.length := by rw [h.length, List.length_map]
theorem size_of {vs : List Value} (h : vs.length ≤ 1000) : vs.toArray.size ≤ sizeLine := by rw [List.size_toArray, sizeLine_eq]; omega
theorem useNew0 {w : World} {A : Around} {E : Value → Shared → Prop} {s : Shared} {h₀ : Heap} {L : Addr} {m : Str → Option Value} {news : List (Addr × Obj)} {t : Sem Value} {ns : List Nat} {Q : Value → Shared → Prop} (F : Fr h₀ L s.heap m) (N : News h₀ L s.heap news)
    (c : RO w A s t fun v h' => NewIds s.heap h' v ns)
    (h : ∀ l vs n h' tk', IntsAre vs (ns.map Int.ofNat) → (∀ p ∈ news, p.1 ≠ l) → Fr h₀ L h' m → News h₀ L h' ((l, listOf vs.toArray n) :: news) → Q (.ref l) { s with heap := h', toks := tk' }) : wpAny (model prg w) A t Q E s :=
  c Q E fun v h' tk' k hz => by
    obtain ⟨l, e, ⟨vs, ⟨n, hl⟩, hi⟩, hn⟩ := hz
    subst e
    refine h l vs n h' tk' hi (fun p hp e => ?_) (fr_grow F k) (fun p hp => ?_)
    · have := (N p hp).1; rw [e, hn] at this; cases this
    · rcases List.mem_cons.mp hp with rfl | hp
      · refine ⟨hl, fun e => ?_, ?_⟩
        · obtain ⟨oL, _, _, hL, _⟩ := F.ns
          have e' : l = L := e
          rw [e', hL] at hn; cases hn
        · cases q : h₀.get? l with
          | none => rfl
          | some o => rw [F.keep _ _ q] at hn; cases hn
      · exact news_grow N k p hp
theorem useNew {hpS : Heap} {gnS : Array GenState} {drS : Drawn} {tkS : Nat} {osS : OsState} {w : World} {A : Around} {E : Value → Shared → Prop} {h₀ : Heap} {L : Addr} {m : Str → Option Value} {news : List (Addr × Obj)} {t : Sem Value} {ns : List Nat} {Q : Value → Shared → Prop} (F : Fr h₀ L hpS m) (N : News h₀ L hpS news)
    (c : RO w A (Shared.mk hpS gnS drS tkS osS) t fun v h' => NewIds hpS h' v ns)
    (h : ∀ l vs n h' tk', IntsAre vs (ns.map Int.ofNat) → (∀ p ∈ news, p.1 ≠ l) → Fr h₀ L h' m → News h₀ L h' ((l, listOf vs.toArray n) :: news) → Q (.ref l) (Shared.mk h' gnS drS tk' osS)) : wpAny (model prg w) A t Q E (Shared.mk hpS gnS drS tkS osS) :=
  useNew0 (s := (Shared.mk hpS gnS drS tkS osS)) F N c h
theorem weight_low : ∀ {ns : List Nat}, (∀ i ∈ ns, i < 1000) → PyData.weightAll ((ns.map Int.ofNat).map .int) ≤ 11 * ns.length
  | [], _ => Nat.le_refl _
  | i :: r, h => by
    have ih := weight_low (ns := r) fun j hj => h j (.tail _ hj)
    have hi := h i (.head _)
    show PyData.weight (.int (Int.ofNat i)) + 1 + PyData.weightAll ((r.map Int.ofNat).map .int) ≤ 11 * (r.length + 1)
    have hw : PyData.weight (.int (Int.ofNat i)) ≤ 10 := by
      show (if Int.ofNat i == 0 then 0 else (Int.ofNat i).natAbs.log2 + 1) ≤ 10
      split
      · omega
      · have : i.log2 < 10 := by
          by_cases h0 : i = 0
          · subst h0; decide
          · exact (Nat.log2_lt h0).mpr (by omega)
        show i.log2 + 1 ≤ 10
        omega
    omega
theorem canLay_ids : ∀ {ns : List Int}, PyData.canLayAll0 (ns.map .int) = true
  | [] => rfl
  | _ :: r => by show (true && PyData.canLayAll0 (r.map .int)) = true; rw [canLay_ids]; rfl
theorem depth_ids : ∀ {ns : List Int}, PyData.depthAll (ns.map .int) = 0
  | [] => rfl
  | _ :: r => by show max 0 (PyData.depthAll (r.map .int)) = 0; rw [depth_ids]; rfl
theorem lay_ids {ns : List Nat} (h : ∀ i ∈ ns, i < 1000) (hl : ns.length ≤ 1000) : PyData.layable0 (.list ((ns.map Int.ofNat).map .int)) = true := by
  have hw := weight_low h
  unfold PyData.layable0
  rw [Bool.and_eq_true, Bool.and_eq_true]
  refine ⟨⟨canLay_ids, decide_eq_true ?_⟩, decide_eq_true ?_⟩
  · show PyData.depthAll _ + 1 ≤ 64
    rw [depth_ids]; omega
  · show PyData.weightAll _ ≤ _
    omega
theorem idxOf_ids (ns : List Nat) (i : Nat) : (ns.map Int.ofNat).idxOf (i : Int) = ns.idxOf i := by
  induction ns with
  | nil => rfl
  | cons a r ih =>
    rw [List.map_cons, List.idxOf_cons, List.idxOf_cons, ih]
    by_cases h : a = i
    · subst h; simp
    · have h1 : (Int.ofNat a == (i : Int)) = false := by
        rw [beq_eq_false_iff_ne]; intro e; exact h (Int.ofNat.inj e)
      have h2 : (a == i) = false := by rw [beq_eq_false_iff_ne]; exact h
      rw [h1, h2]
theorem index_news {w : World} {A : Around} {E : Value → Shared → Prop} {s : Shared} {h₀ : Heap} {L l : Addr} {news : List (Addr × Obj)} {vs : List Value} {n : Nat} {ns : List Nat} {i : Nat} {u : Tok} {Q : Value → Shared → Prop}
    (N : News h₀ L s.heap news) (hm : (l, listOf vs.toArray n) ∈ news) (hi : IntsAre vs (ns.map Int.ofNat)) (hlow : (∀ i ∈ ns, i < 1000) ∧ ns.length ≤ 1000) (hk : i ∈ ns)
    (h : Q (.int (ns.idxOf i : Nat) s.toks) { s with toks := s.toks + 1 }) : wpAny (model prg w) A (call (.builtin "list.index") [.ref l, .int (i : Int) u]) Q E s :=
  index_list_ints (ns := ns.map Int.ofNat) ⟨_, (N _ hm).1, rfl, n, rfl⟩ hi (lay_ids hlow.1 hlow.2) (List.mem_map.mpr ⟨i, hk, rfl⟩) (by rw [idxOf_ids]; exact h)
/-- a fresh tuple of ints -/
noncomputable def NewTup (h h' : Heap) (v : Value) (ns : List Int) : Prop := ∃ l vs n, v = .ref l ∧ h'.get? l = some { cls := .type "tuple", data := .seq vs.toArray n } ∧ IntsAre vs ns ∧ h.get? l = none
theorem useTup0 {w : World} {A : Around} {E : Value → Shared → Prop} {s : Shared} {h₀ : Heap} {L : Addr} {m : Str → Option Value} {news : List (Addr × Obj)} {t : Sem Value} {ns : List Int} {Q : Value → Shared → Prop} (F : Fr h₀ L s.heap m) (N : News h₀ L s.heap news)
    (c : RO w A s t fun v h' => NewTup s.heap h' v ns)
    (h : ∀ l vs n h' tk', IntsAre vs ns → (∀ p ∈ news, p.1 ≠ l) → Fr h₀ L h' m → News h₀ L h' ((l, { cls := .type "tuple", data := .seq vs.toArray n }) :: news) → Q (.ref l) { s with heap := h', toks := tk' }) : wpAny (model prg w) A t Q E s :=
  c Q E fun v h' tk' k hz => by
    obtain ⟨l, vs, n, e, hl, hi, hn⟩ := hz
    subst e
    refine h l vs n h' tk' hi (fun p hp e => ?_) (fr_grow F k) (fun p hp => ?_)
    · have := (N p hp).1; rw [e, hn] at this; cases this
    · rcases List.mem_cons.mp hp with rfl | hp
      · refine ⟨hl, fun e => ?_, ?_⟩
        · obtain ⟨oL, _, _, hL, _⟩ := F.ns
          have e' : l = L := e
          rw [e', hL] at hn; cases hn
        · cases q : h₀.get? l with
          | none => rfl
          | some o => rw [F.keep _ _ q] at hn; cases hn
      · exact news_grow N k p hp
noncomputable abbrev tupO (vs : List Value) (n : Nat) : Obj := { cls := .type "tuple", data := .seq vs.toArray n }
theorem useTup {hpS : Heap} {gnS : Array GenState} {drS : Drawn} {tkS : Nat} {osS : OsState} {w : World} {A : Around} {E : Value → Shared → Prop} {h₀ : Heap} {L : Addr} {m : Str → Option Value} {news : List (Addr × Obj)} {t : Sem Value} {ns : List Int} {Q : Value → Shared → Prop} (F : Fr h₀ L hpS m) (N : News h₀ L hpS news)
    (c : RO w A (Shared.mk hpS gnS drS tkS osS) t fun v h' => NewTup hpS h' v ns)
    (h : ∀ l vs n h' tk', IntsAre vs ns → (∀ p ∈ news, p.1 ≠ l) → Fr h₀ L h' m → News h₀ L h' ((l, { cls := .type "tuple", data := .seq vs.toArray n }) :: news) → Q (.ref l) (Shared.mk h' gnS drS tk' osS)) : wpAny (model prg w) A t Q E (Shared.mk hpS gnS drS tkS osS) :=
  useTup0 (s := (Shared.mk hpS gnS drS tkS osS)) F N c h
theorem ints_app : ∀ {vs ws : List Value} {ns ms : List Int}, IntsAre vs ns → IntsAre ws ms → IntsAre (vs ++ ws) (ns ++ ms)
  | _, _, _, _, .nil, h => h
  | _, _, _, _, .cons n t h, h' => .cons n t (ints_app h h')
theorem addT_news {w : World} {A : Around} {E : Value → Shared → Prop} {s : Shared} {h₀ : Heap} {L t b : Addr} {m : Str → Option Value} {news : List (Addr × Obj)} {vs ws : List Value} {n1 n2 : Nat} {x y : Int} {xs ys : List Int} {Q : Value → Shared → Prop} (F : Fr h₀ L s.heap m) (N : News h₀ L s.heap news)
    (m1 : (t, tupO vs n1) ∈ news) (m2 : (b, tupO ws n2) ∈ news) (hi : IntsAre vs (x :: xs)) (hj : IntsAre ws (y :: ys)) (z1 : vs.length ≤ 1000) (z2 : (y :: ys).length ≤ 1000)
    (h : ∀ D h', Fr h₀ L h' m → News h₀ L h' ((D, tupO (vs ++ ws) 0) :: news) → (∀ p ∈ news, p.1 < D) → IntsAre (vs ++ ws) ((x :: xs) ++ (y :: ys)) → Q (.ref D) { s with heap := h' }) :
    wpAny (model prg w) A (binaryOp .Add (.ref t) (.ref b)) Q E s := by
  refine kde_addT (its := vs.toArray) (its2 := ws.toArray) F N ⟨_, (N _ m1).1, rfl, n1, rfl⟩ ⟨_, (N _ m2).1, rfl, n2, rfl⟩ (fun e => ?_) (fun e => ?_) ?_ rfl fun D h' F' N' l1 => h D h' F' N' l1 (ints_app hi hj)
  · have : vs = [] := e
    subst this; cases hi
  · have : ws = [] := e
    subst this; cases hj
  · have := hj.length
    show vs.length + ws.length ≤ 16384
    omega
section
variable {prog : Program} {w : World} {A : Around} {E : Value → Shared → Prop} {s : Shared} {env : Env} {h₀ : Heap} {x : Str} {body : List Stmt} {Q : Flow → Shared → Prop}
/-- a turn's walk, told by a word over the turn's number, the names and the ledger -/
noncomputable def Turn (prog : Program) (w : World) (A : Around) (E : Value → Shared → Prop) (h₀ : Heap) (env : Env) (x : Str) (body : List Stmt) (Q : Flow → Shared → Prop) (s : Shared) (I : Addr) (J : Nat → (Str → Option Value) → List (Addr × Obj) → Prop) (at_ : Nat → Value → Prop) : Prop :=
  ∀ i v m nx it h tk, at_ i v → (∀ p ∈ nx, p.1 ≠ I) → J i m nx → Fr h₀ env.locals h (fun y => if y = x then some v else m y) → News h₀ env.locals h ((I, it) :: nx) →
    wpAny (model prog w) A (execs body env) (UnrPost h₀ env.locals { s with heap := h, toks := tk } I it (J (i + 1)) Q) E { s with heap := h, toks := tk }

theorem eachL0 {a : Addr} {vs : List Value} {n : Nat} {m₀ : Str → Option Value} {news : List (Addr × Obj)} (J : Nat → (Str → Option Value) → List (Addr × Obj) → Prop)
    (hh : A.handled = none) (F : Fr h₀ env.locals s.heap m₀) (N : News h₀ env.locals s.heap news)
    (hl : h₀.get? a = some (listOf vs.toArray n) ∨ ((a, listOf vs.toArray n) ∈ news ∧ ∀ i m nx, J i m nx → (a, listOf vs.toArray n) ∈ nx)) (hj : J 0 m₀ news)
    (turn : ∀ I : Addr, (∀ p ∈ news, p.1 < I) → Turn prog w A E h₀ env x body Q s I J fun i v => vs[i]? = some v)
    (done : ∀ m nx h tk, J vs.length m nx → Fr h₀ env.locals h m → News h₀ env.locals h nx → Q .next { s with heap := h, toks := tk }) :
    wpAny (model prog w) A (pyIter (.ref a)) (fun it s₂ => LoopAtV prog w A h₀ env x body Q E it s₂) E s := by
  have hat : s.heap.get? a = some (listOf vs.toArray n) := hl.elim (fun e => F.keep _ _ e) fun e => (N _ e.1).1
  have hls : s.heap.IsList a vs.toArray := ⟨_, hat, rfl, n, rfl⟩
  have hlt : a < s.heap.objs.size := Heap.lt_size hat
  have hne : a ≠ s.heap.objs.size := Nat.ne_of_lt hlt
  refine wpAny_pyIter_list hls ?_
  have W := Walks.list (prog := prog) (w := w) hh s.heap.objs.size a hne vs.toArray
  have hnew := next_is_new F
  have hlen : vs.toArray.size = vs.length := by simp
  rw [hlen] at W
  have hLa : env.locals ≠ a := fun e => hl.elim (fun q => absurd (Heap.lt_size q) (Nat.not_lt.mpr (e ▸ F.above))) fun q => (N _ q.1).2.1 e.symm
  refine ⟨_, _, _, vs.length, _, _, m₀, news, J, rfl, W, ?_, ?_, ?_, ⟨⟨_, Heap.get?_push_size _ rfl, rfl, rfl⟩, hls.at fun o e => Heap.get?_push_of_some _ e⟩, F.push _, (fun p hp => ⟨Heap.get?_push_of_some _ (N p hp).1, (N p hp).2⟩), hj, ?_, ?_⟩
  · intro hm
    rcases List.mem_cons.mp hm with e | hm
    · exact absurd F.ns.lt (e ▸ Nat.lt_irrefl _)
    · exact hLa (List.mem_singleton.mp hm)
  · intro b hb
    rw [List.mem_singleton.mp hb]
    exact hnew
  · intro p hp hI
    exact absurd (Heap.lt_size (N p hp).1) ((List.mem_singleton.mp hI) ▸ Nat.lt_irrefl _)
  · rintro i v m₁ nx s₁ own ⟨h, tk, rfl⟩ hin hP hJ hoff hown hget hall hst F₁ N₁
    obtain ⟨it, hit, hic, hid⟩ := hst.1
    have hmemI := hall s.heap.objs.size (List.mem_cons_self ..) hnew _ hit
    have hoff' : ∀ p ∈ nx, p.1 ≠ s.heap.objs.size := fun p hp e => hoff p hp (List.mem_singleton.mpr e)
    have N₂ : News h₀ env.locals h ((s.heap.objs.size, it) :: nx) := fun p hp => by
      rcases List.mem_cons.mp hp with rfl | hp
      · exact N₁ _ (List.mem_append_left _ hmemI)
      · exact N₁ _ (List.mem_append_right _ hp)
    refine wpAny_mono (turn _ (fun p hp => Heap.lt_size (N p hp).1) i v m₁ nx it h tk (by simpa using hP) hoff' hJ F₁ N₂) (fun f s₂ p => ?_) fun _ _ e => e
    have fin : UnrEnd h₀ env.locals { s with heap := h, toks := tk } s.heap.objs.size it (J (i + 1)) s₂ → LoopStepU h₀ env.locals [s.heap.objs.size] own (J (i + 1)) { s with heap := h, toks := tk } .next s₂ := by
      rintro ⟨h', tk', m', nx', e, F', N', ho, hJ'⟩
      refine ⟨rfl, h', tk', m', nx', e, F', fun p hp => ?_, fun p hp hI => ho p hp (List.mem_singleton.mp hI), hJ'⟩
      rcases List.mem_append.mp hp with hp | hp
      · have h2 : h.get? p.1 = some p.2 := hget p hp
        rcases List.mem_cons.mp (hown p hp) with h1 | h1
        · have h3 : p = (s.heap.objs.size, it) := by
            rw [h1, hit] at h2
            exact Prod.ext h1 (Option.some.inj h2).symm
          rw [h3]; exact N' _ (List.mem_cons_self ..)
        · have h1' : p.1 = a := List.mem_singleton.mp h1
          rcases hl with q | q
          · exact absurd (show h₀.get? p.1 = none from (N₁ p (List.mem_append_left _ hp)).2.2) (by rw [h1', q]; nofun)
          · have h3 : p = (a, listOf vs.toArray n) := by
              rw [h1', (N₂ _ (.tail _ (q.2 _ _ _ hJ))).1] at h2
              exact Prod.ext h1' (Option.some.inj h2).symm
            rw [h3]; exact N' _ (.tail _ (q.2 _ _ _ hJ'))
      · exact N' _ (List.mem_cons_of_mem _ hp)
    cases f with
    | ret v => exact .ret p
    | brk => exact .brk p
    | next => exact .next (fin p)
    | cont => exact .cont (fin p)
  · rintro h' tk m' nx F' N' _ hJ
    exact done m' nx h' tk hJ F' N'

theorem eachL {hpS : Heap} {gnS : Array GenState} {drS : Drawn} {tkS : Nat} {osS : OsState} {a : Addr} {vs : List Value} {n : Nat} {m₀ : Str → Option Value} {news : List (Addr × Obj)} (J : Nat → (Str → Option Value) → List (Addr × Obj) → Prop)
    (hh : A.handled = none) (F : Fr h₀ env.locals hpS m₀) (N : News h₀ env.locals hpS news)
    (hl : h₀.get? a = some (listOf vs.toArray n) ∨ ((a, listOf vs.toArray n) ∈ news ∧ ∀ i m nx, J i m nx → (a, listOf vs.toArray n) ∈ nx)) (hj : J 0 m₀ news)
    (turn : ∀ I : Addr, (∀ p ∈ news, p.1 < I) → ∀ i v m nx it h tk, (vs[i]? = some v) → (∀ p ∈ nx, p.1 ≠ I) → J i m nx → Fr h₀ env.locals h (fun y => if y = x then some v else m y) → News h₀ env.locals h ((I, it) :: nx) → wpAny (model prog w) A (execs body env) (UnrPost h₀ env.locals (Shared.mk h gnS drS tk osS) I it (J (i + 1)) Q) E (Shared.mk h gnS drS tk osS))
    (done : ∀ m nx h tk, J vs.length m nx → Fr h₀ env.locals h m → News h₀ env.locals h nx → Q .next (Shared.mk h gnS drS tk osS)) :
    wpAny (model prog w) A (pyIter (.ref a)) (fun it s₂ => LoopAtV prog w A h₀ env x body Q E it s₂) E (Shared.mk hpS gnS drS tkS osS) :=
  eachL0 (s := (Shared.mk hpS gnS drS tkS osS)) J hh F N hl hj turn done
theorem eachR0 {r : Addr} {b₀ : Int} {t₀ u₀ v₀ : Tok} {n : Nat} {m₀ : Str → Option Value} {news : List (Addr × Obj)} (J : Nat → (Str → Option Value) → List (Addr × Obj) → Prop)
    (hh : A.handled = none) (hr : IsRange s.heap r 0 b₀ 1 t₀ u₀ v₀) (hsmall : Builtin.Range.small 0 b₀ 1 = true) (hn : Builtin.Range.rangeSize 0 b₀ 1 = (n : Int)) (F : Fr h₀ env.locals s.heap m₀) (N : News h₀ env.locals s.heap news) (hj : J 0 m₀ news)
    (turn : ∀ I : Addr, (∀ p ∈ news, p.1 < I) → Turn prog w A E h₀ env x body Q s I J fun i v => i < n ∧ ∃ t, v = .int (i : Int) t)
    (done : ∀ m nx h tk, J n m nx → Fr h₀ env.locals h m → News h₀ env.locals h nx → Q .next { s with heap := h, toks := tk }) :
    wpAny (model prog w) A (pyIter (.ref r)) (fun it s₂ => LoopAtV prog w A h₀ env x body Q E it s₂) E s := by
  refine wpAny_pyIter_range hr hsmall ?_
  have W : Walks prog w A s.heap.objs.size [s.heap.objs.size] [s.heap.objs.size] n (fun i v => i < n ∧ ∃ t, v = .int (0 + i * 1) t)
      (fun i h => IsRangeIter h s.heap.objs.size (0 + (i : Nat) * 1) ((n : Int) - (i : Nat)) 1) := (Walks.range hh _ 0 1 n).bound
  have hnew := next_is_new F
  refine ⟨_, _, _, n, _, _, m₀, news, J, rfl, W, ?_, ?_, ?_, (by show IsRangeIter _ _ _ _ _; rw [hn]; simpa using Heap.get?_push_size _ rfl), F.push _, (fun p hp => ⟨Heap.get?_push_of_some _ (N p hp).1, (N p hp).2⟩), hj, ?_, ?_⟩
  · intro hm
    exact absurd F.ns.lt ((List.mem_singleton.mp hm) ▸ Nat.lt_irrefl _)
  · intro b hb
    rw [List.mem_singleton.mp hb]
    exact hnew
  · intro p hp hI
    exact absurd (Heap.lt_size (N p hp).1) ((List.mem_singleton.mp hI) ▸ Nat.lt_irrefl _)
  · rintro i v m₁ nx s₁ own ⟨h, tk, rfl⟩ hin ⟨_, t, rfl⟩ hJ hoff hown hget hall hst F₁ N₁
    obtain ⟨it, hit⟩ : ∃ it, h.get? s.heap.objs.size = some it := ⟨_, hst⟩
    have hmemI := hall s.heap.objs.size (List.mem_cons_self ..) hnew _ hit
    have hoff' : ∀ p ∈ nx, p.1 ≠ s.heap.objs.size := fun p hp e => hoff p hp (List.mem_singleton.mpr e)
    have e1 : (0 : Int) + (i : Int) * 1 = (i : Int) := by omega
    rw [e1] at F₁
    have N₂ : News h₀ env.locals h ((s.heap.objs.size, it) :: nx) := fun p hp => by
      rcases List.mem_cons.mp hp with rfl | hp
      · exact N₁ _ (List.mem_append_left _ hmemI)
      · exact N₁ _ (List.mem_append_right _ hp)
    refine wpAny_mono (turn _ (fun p hp => Heap.lt_size (N p hp).1) i _ m₁ nx it h tk ⟨hin, t, rfl⟩ hoff' hJ F₁ N₂) (fun f s₂ p => ?_) fun _ _ e => e
    have fin : UnrEnd h₀ env.locals { s with heap := h, toks := tk } s.heap.objs.size it (J (i + 1)) s₂ → LoopStepU h₀ env.locals [s.heap.objs.size] own (J (i + 1)) { s with heap := h, toks := tk } .next s₂ := by
      rintro ⟨h', tk', m', nx', e, F', N', ho, hJ'⟩
      refine ⟨rfl, h', tk', m', nx', e, F', fun p hp => ?_, fun p hp hI => ho p hp (List.mem_singleton.mp hI), hJ'⟩
      rcases List.mem_append.mp hp with hp | hp
      · have h1 : p.1 = s.heap.objs.size := List.mem_singleton.mp (hown p hp)
        have h2 : h.get? p.1 = some p.2 := hget p hp
        rw [h1, hit] at h2
        rw [show p = (s.heap.objs.size, it) from Prod.ext h1 (Option.some.inj h2).symm]
        exact N' _ (List.mem_cons_self ..)
      · exact N' _ (List.mem_cons_of_mem _ hp)
    cases f with
    | ret v => exact .ret p
    | brk => exact .brk p
    | next => exact .next (fin p)
    | cont => exact .cont (fin p)
  · rintro h' tk m' nx F' N' _ hJ
    exact done m' nx h' tk hJ F' N'
theorem eachR {hpS : Heap} {gnS : Array GenState} {drS : Drawn} {tkS : Nat} {osS : OsState} {r : Addr} {b₀ : Int} {t₀ u₀ v₀ : Tok} {n : Nat} {m₀ : Str → Option Value} {news : List (Addr × Obj)} (J : Nat → (Str → Option Value) → List (Addr × Obj) → Prop)
    (hh : A.handled = none) (hr : IsRange hpS r 0 b₀ 1 t₀ u₀ v₀) (hsmall : Builtin.Range.small 0 b₀ 1 = true) (hn : Builtin.Range.rangeSize 0 b₀ 1 = (n : Int)) (F : Fr h₀ env.locals hpS m₀) (N : News h₀ env.locals hpS news) (hj : J 0 m₀ news)
    (turn : ∀ I : Addr, (∀ p ∈ news, p.1 < I) → ∀ i v m nx it h tk, (i < n ∧ ∃ t, v = .int (i : Int) t) → (∀ p ∈ nx, p.1 ≠ I) → J i m nx → Fr h₀ env.locals h (fun y => if y = x then some v else m y) → News h₀ env.locals h ((I, it) :: nx) → wpAny (model prog w) A (execs body env) (UnrPost h₀ env.locals (Shared.mk h gnS drS tk osS) I it (J (i + 1)) Q) E (Shared.mk h gnS drS tk osS))
    (done : ∀ m nx h tk, J n m nx → Fr h₀ env.locals h m → News h₀ env.locals h nx → Q .next (Shared.mk h gnS drS tk osS)) :
    wpAny (model prog w) A (pyIter (.ref r)) (fun it s₂ => LoopAtV prog w A h₀ env x body Q E it s₂) E (Shared.mk hpS gnS drS tkS osS) :=
  eachR0 (s := (Shared.mk hpS gnS drS tkS osS)) J hh hr hsmall hn F N hj turn done
end
section
variable {prog : Program} {w : World} {A : Around} {E : Value → Shared → Prop} {s : Shared} {env : Env} {h₀ : Heap} {target : Expr} {body : List Stmt} {Q : Flow → Shared → Prop} {ws : List (Addr × String)} {keep : List (Addr × Obj)}
theorem allObj_mono : ∀ {ws : List (Addr × String)} {k k' : List (Addr × Obj) → Prop}, (∀ its, k its → k' its) → AllObj ws k → AllObj ws k'
  | [], _, _, h, x => h _ x
  | w :: _, _, _, h, x => fun o ho => allObj_mono (fun its q => h ((w.1, o) :: its) q) (x o ho)
/-- a loop's turns by a word over the items that are left -/
theorem items_ind0 (J : List Itm → (Str → Option Value) → List (Addr × Obj) → Prop)
    (nil : ∀ m nx h tk, J [] m nx → Fr h₀ env.locals h m → News h₀ env.locals h nx → Q .next { s with heap := h, toks := tk })
    (cons : ∀ a r m nx v h tk, J (a :: r) m nx → a.Is v h → Fr h₀ env.locals h m → AllObj ws (fun its => News h₀ env.locals h (its ++ nx) →
      wpAny (model prog w) A (assign target env v) (fun _ s₂ => wpAny (model prog w) A (execs body env) (UnrPostW h₀ env.locals { s with heap := h, toks := tk } its (fun m' n' => SubL keep n' ∧ J r m' n') Q) E s₂) E { s with heap := h, toks := tk })) :
    ∀ xs m nx, J xs m nx → ItemsRest prog w A E h₀ env target body Q s ws keep xs m nx
  | [], m, nx, hJ => fun h tk F N => nil m nx h tk hJ F N
  | a :: r, m, nx, hJ => fun v h tk ha F => by
    refine allObj_mono (fun its q N => ?_) (cons a r m nx v h tk hJ ha F)
    refine wpAny_mono (q N) (fun _ s₂ q₂ => wpAny_mono q₂ (fun f s₃ p => ?_) fun _ _ e => e) fun _ _ e => e
    have up : UnrEndW h₀ env.locals { s with heap := h, toks := tk } its (fun m' n' => SubL keep n' ∧ J r m' n') s₃ → UnrEndW h₀ env.locals { s with heap := h, toks := tk } its (fun m' n' => SubL keep n' ∧ ItemsRest prog w A E h₀ env target body Q s ws keep r m' n') s₃ :=
      fun ⟨h', tk', m', n', e, F', N', ho, hk, hj⟩ => ⟨h', tk', m', n', e, F', N', ho, hk, items_ind0 J nil cons r m' n' hj⟩
    cases f with
    | ret v => exact p
    | brk => exact p
    | next => exact up p
    | cont => exact up p
theorem items_ind {hpS : Heap} {gnS : Array GenState} {drS : Drawn} {tkS : Nat} {osS : OsState} (J : List Itm → (Str → Option Value) → List (Addr × Obj) → Prop)
    (nil : ∀ m nx h tk, J [] m nx → Fr h₀ env.locals h m → News h₀ env.locals h nx → Q .next (Shared.mk h gnS drS tk osS))
    (cons : ∀ a r m nx v h tk, J (a :: r) m nx → a.Is v h → Fr h₀ env.locals h m → AllObj ws (fun its => News h₀ env.locals h (its ++ nx) →
      wpAny (model prog w) A (assign target env v) (fun _ s₂ => wpAny (model prog w) A (execs body env) (UnrPostW h₀ env.locals (Shared.mk h gnS drS tk osS) its (fun m' n' => SubL keep n' ∧ J r m' n') Q) E s₂) E (Shared.mk h gnS drS tk osS))) :
    ∀ xs m nx, J xs m nx → ItemsRest prog w A E h₀ env target body Q (Shared.mk hpS gnS drS tkS osS) ws keep xs m nx :=
  items_ind0 (s := (Shared.mk hpS gnS drS tkS osS)) J nil cons
theorem news_sub {h₀ h : Heap} {L : Addr} {l l' : List (Addr × Obj)} (N : News h₀ L h l) (hs : ∀ p ∈ l', p ∈ l) : News h₀ L h l' := fun p hp => N p (hs p hp)
end
local macro_rules | `(tactic| k_ne) => `(tactic| k_extra "kne")
theorem rows_a : True := by
  (k_with "kne" => (refine neN ?_; (try dsimp only); first | assumption | exact Ne.symm (by assumption) | exact ne_l1 (by assumption) | exact ne_l2 (by assumption) | exact ne_l3 (by assumption) | exact ne_l4 (by assumption) | exact ne_l5 (by assumption) | exact ne_l6 (by assumption) | exact ne_l7 (by assumption) | exact ne_l8 (by assumption)))
  trivial
local macro_rules | `(tactic| walk_at "inL2") => `(tactic| (intro l1 hi'; (try k_lt l1); (try k_sweep)))
local macro_rules | `(tactic| walk_at "roV") => `(tactic| (intro v' h' tk' hk' hv' F' N'; (first | subst hv' | ((obtain ⟨u', hv'⟩ := hv'); (subst hv'))); (try dsimp only); (try k_sweep)))
local macro_rules | `(tactic| walk_at $s:str) => `(tactic| k_extra $s)
local macro_rules | `(tactic| walk_at "inL") => `(tactic| (intro l1; (try k_lt l1); (try k_sweep)))
local macro_rules | `(tactic| k_inst) => `(tactic| k_extra "kinst")
theorem rows_b : True := by
  (k_with "kinst" => (refine' inst_of_base ?qF ?qh1 ?qh2; (case qF => k_asm); (case qh1 => k_asm); (case qh2 => k_asm)))
  trivial
theorem rows_c : True := by
  (k_with "call builtin:len" => (k_here; (with_reducible show wpAny _ _ (call (Value.builtin "len") [Value.ref _]) _ _ _); k_dflt (refine' len_base ?qF ?ql ?qz ?_; (case qF => k_asm); (case ql => k_asm); (case qz => ((try simp only [List.length_map]); omega)); k_whole)))
  (k_with "subscriptTail" => (k_here; (with_reducible show wpAny _ _ (subscriptTail _ _ (Value.ref _) (Value.int _ _)) _ _ _); k_dflt (refine' item_base ?qF ?ql ?qa ?qb ?qx ?_; (case qF => k_asm); (case ql => k_asm); (case qa => omega); (case qb => omega); (case qx => assumption); k_whole)))
  (k_with "call type:list" => (k_here; (with_reducible show wpAny _ _ (call (Value.type _) [Value.ref _]) _ _ _); k_dflt (refine' list_base ?qF ?qN ?ql ?qz ?_; (case qF => k_asm); (case qN => k_asm); (case ql => k_asm); (case qz => size_fits); k_whole); intro _ _ _ _ _; walk_at "inL"))
  trivial
local macro_rules | `(tactic| k_handed) => `(tactic| exact handed_par _ _)
theorem rows_d : True := by
  (k_with "exec While Compare cons nil" => refine stop_of ?_)
  (k_with "exec While BoolOp cons nil" => refine stop_of ?_)
  (k_with "exec For Name Name cons nil" => refine stop_of ?_)
  (k_with "exec For Name Call cons nil" => refine stop_of ?_)
  (k_with "exec For Name BinOp cons nil" => refine stop_of ?_)
  (k_with "exec For Name IfExp cons nil" => refine stop_of ?_)
  (k_with "exec For Tuple Call cons nil" => refine stop_of ?_)
  (k_with "exec For Tuple Subscript cons nil" => refine stop_of ?_)
  (k_with "pyIter ref" => refine stop_of ?_)
  (k_with "WhileStep" => refine stop_of ?_)
  (k_with "call type:zip" => refine stop_of ?_)
  (k_with "call type:enumerate" => refine stop_of ?_)
  (k_with "UnrEndW" => refine stop_of ?_)
  (k_with "UnrEnd" => refine stop_of ?_)
  (k_with "call builtin:list.index" => (k_here; k_dflt (refine' index_news ?qN ?qm ?qi ?qw ?qk ?_; (case qN => k_asm); (case qm => k_mem); (case qi => k_asm); (case qw => k_asm); (case qk => k_asm); k_whole)))
  (k_with "binaryOp Add ref ref" => (k_here; (with_reducible show wpAny _ _ (binaryOp _ (Value.ref _) (Value.ref _)) _ _ _); k_dflt (refine' addT_news ?qF ?qN ?qa ?qb ?qi ?qj ?qy ?qz ?_; (case qF => k_asm); (case qN => k_asm); (case qa => k_mem); (case qb => k_mem); (case qi => k_asm); (case qj => k_asm); (case qy => k_asm); (case qz => exact Nat.le_of_ble_eq_true rfl); k_whole); intro _ _ _ _; walk_at "inL2"))
  trivial
local macro_rules | `(tactic| walk_at "roN") => `(tactic| (intro l' vs' n' h' tk' hI' hne' F' N'; (try dsimp only); (try simp only [List.forall_mem_cons, List.forall_mem_nil, and_true] at hne'); (try k_sweep)))
section
variable {w : World} {p : Program} {loose : List Str} {mean : ExcName → Option Value} {mg mb : Str → Option Value} {A : Around} {s : Shared}
theorem row_c (B : Bs w p loose mean mg mb s.heap) (hd : Rm A 1) {T dT R : Addr} {rs : List Row} (hT : TreeAt w.params s.heap T dT R rs) {i : Nat} {ti : Tok} {r : Row} (hi : rs[i]? = some r) :
    RO w A s (call (.ref 155) [.ref T, .int (i : Int) ti]) fun v _ => v = .ref r.a := by
  refine fill0 ?_; k_fill; intro _
  intro Q E ret
  obtain ⟨hA, dp, frs, gds, un⟩ := A; obtain rfl : hA = none := hd.handled
  refine enter B (st := methAt 18 2) (f := 155) (binds := [(Str.ofString "self", .ref T), (Str.ofString "node", .int (i : Int) ti)]) (by k_is) rfl (by k_is) hd.room (by rfl) (by rfl) ?_
  obtain ⟨t, n, hdT⟩ := hT.dict
  have hTi := hT.inst
  have hR := hT.rows
  have hlt : i < rs.length := (List.getElem?_eq_some_iff.mp hi).1
  have hlt' : (i : Int) < ((rs.map fun r => Value.ref r.a).length : Int) := by rw [List.length_map]; omega
  have hsm := hT.small
  have X := B.X
  have T' := B.T
  have hx : (rs.map fun r => Value.ref r.a)[((i : Int)).toNat]? = some (Value.ref r.a) := by simp [hi]
  intro h₁ tk F
  have N : News s.heap s.heap.objs.size h₁ [] := News.nil
  k_steps
  exact ret _ _ _ F.keep rfl
theorem rows_e : True := by
  (k_with "call ref" => (k_here; k_dflt ((with_reducible show wpAny _ _ (call (Value.ref 155) _) _ _ _); refine' useRO ?qF ?qN (row_c (Bs.keeps ?qB (Fr.keep ?qF2)) ?qd (TreeAt.keeps ?qT (Fr.keep ?qF3)) ?qi) ?_; (case qF | qN | qB | qF2 | qT | qF3 | qi => k_asm); (case qd => exact Rm.sub (by assumption) (by decide)); k_whole); walk_at "roV"))
  trivial
theorem kind_c (B : Bs w p loose mean mg mb s.heap) (hd : Rm A 2) {T dT R : Addr} {rs : List Row} (hT : TreeAt w.params s.heap T dT R rs) {i : Nat} {ti : Tok} {r : Row} (hi : rs[i]? = some r) :
    RO w A s (call (.ref 232) [.ref T, .int (i : Int) ti]) fun v _ => ∃ u, v = .str r.kind u := by
  refine fill0 ?_; k_fill; intro _
  intro Q E ret
  obtain ⟨hA, dp, frs, gds, un⟩ := A; obtain rfl : hA = none := hd.handled
  refine enter B (st := methAt 18 13) (f := 232) (binds := [(Str.ofString "self", .ref T), (Str.ofString "node", .int (i : Int) ti)]) (by k_is) rfl (by k_is) hd.room (by rfl) (by rfl) ?_
  obtain ⟨t, n, hdT⟩ := hT.dict
  have hTi := hT.inst
  have hRow := hT.all r (List.mem_of_getElem? hi)
  have hRi := hRow.inst
  obtain ⟨oR, hRd, t1, t2, t3, t4, t5, t6, t7, t8, t9, u1, u2, u3, u4, u5, u6, nR, rfl⟩ := hRow.dict
  have X := B.X
  have T' := B.T
  intro h₁ tk F
  have N : News s.heap s.heap.objs.size h₁ [] := News.nil
  k_steps
  exact ret _ _ _ (Fr.keep (by assumption)) ⟨_, rfl⟩
theorem name_c (B : Bs w p loose mean mg mb s.heap) (hd : Rm A 2) {T dT R : Addr} {rs : List Row} (hT : TreeAt w.params s.heap T dT R rs) {i : Nat} {ti : Tok} {r : Row} (hi : rs[i]? = some r) :
    RO w A s (call (.ref 239) [.ref T, .int (i : Int) ti]) fun v _ => ∃ u, v = .str r.name u := by
  refine fill0 ?_; k_fill; intro _
  intro Q E ret
  obtain ⟨hA, dp, frs, gds, un⟩ := A; obtain rfl : hA = none := hd.handled
  refine enter B (st := methAt 18 14) (f := 239) (binds := [(Str.ofString "self", .ref T), (Str.ofString "node", .int (i : Int) ti)]) (by k_is) rfl (by k_is) hd.room (by rfl) (by rfl) ?_
  obtain ⟨t, n, hdT⟩ := hT.dict
  have hTi := hT.inst
  have hRow := hT.all r (List.mem_of_getElem? hi)
  have hRi := hRow.inst
  obtain ⟨oR, hRd, t1, t2, t3, t4, t5, t6, t7, t8, t9, u1, u2, u3, u4, u5, u6, nR, rfl⟩ := hRow.dict
  have X := B.X
  have T' := B.T
  intro h₁ tk F
  have N : News s.heap s.heap.objs.size h₁ [] := News.nil
  k_steps
  exact ret _ _ _ (Fr.keep (by assumption)) ⟨_, rfl⟩
theorem value_c (B : Bs w p loose mean mg mb s.heap) (hd : Rm A 2) {T dT R : Addr} {rs : List Row} (hT : TreeAt w.params s.heap T dT R rs) {i : Nat} {ti : Tok} {r : Row} (hi : rs[i]? = some r) :
    RO w A s (call (.ref 260) [.ref T, .int (i : Int) ti]) fun v _ => ∃ u, v = .str r.value u := by
  refine fill0 ?_; k_fill; intro _
  intro Q E ret
  obtain ⟨hA, dp, frs, gds, un⟩ := A; obtain rfl : hA = none := hd.handled
  refine enter B (st := methAt 18 17) (f := 260) (binds := [(Str.ofString "self", .ref T), (Str.ofString "node", .int (i : Int) ti)]) (by k_is) rfl (by k_is) hd.room (by rfl) (by rfl) ?_
  obtain ⟨t, n, hdT⟩ := hT.dict
  have hTi := hT.inst
  have hRow := hT.all r (List.mem_of_getElem? hi)
  have hRi := hRow.inst
  obtain ⟨oR, hRd, t1, t2, t3, t4, t5, t6, t7, t8, t9, u1, u2, u3, u4, u5, u6, nR, rfl⟩ := hRow.dict
  have X := B.X
  have T' := B.T
  intro h₁ tk F
  have N : News s.heap s.heap.objs.size h₁ [] := News.nil
  k_steps
  exact ret _ _ _ (Fr.keep (by assumption)) ⟨_, rfl⟩
theorem parent_c (B : Bs w p loose mean mg mb s.heap) (hd : Rm A 2) {T dT R : Addr} {rs : List Row} (hT : TreeAt w.params s.heap T dT R rs) {i : Nat} {ti : Tok} {r : Row} (hi : rs[i]? = some r) :
    RO w A s (call (.ref 267) [.ref T, .int (i : Int) ti]) fun v _ => ∃ u, v = parV r.par u := by
  refine fill0 ?_; k_fill; intro _
  intro Q E ret
  obtain ⟨hA, dp, frs, gds, un⟩ := A; obtain rfl : hA = none := hd.handled
  refine enter B (st := methAt 18 18) (f := 267) (binds := [(Str.ofString "self", .ref T), (Str.ofString "node", .int (i : Int) ti)]) (by k_is) rfl (by k_is) hd.room (by rfl) (by rfl) ?_
  obtain ⟨t, n, hdT⟩ := hT.dict
  have hTi := hT.inst
  have hRow := hT.all r (List.mem_of_getElem? hi)
  have hRi := hRow.inst
  obtain ⟨oR, hRd, t1, t2, t3, t4, t5, t6, t7, t8, t9, u1, u2, u3, u4, u5, u6, nR, rfl⟩ := hRow.dict
  have X := B.X
  have T' := B.T
  intro h₁ tk F
  have N : News s.heap s.heap.objs.size h₁ [] := News.nil
  k_steps
  exact ret _ _ _ (Fr.keep (by assumption)) ⟨_, rfl⟩
theorem children_c (B : Bs w p loose mean mg mb s.heap) (hd : Rm A 2) {T dT R : Addr} {rs : List Row} (hT : TreeAt w.params s.heap T dT R rs) {i : Nat} {ti : Tok} {r : Row} (hi : rs[i]? = some r) :
    RO w A s (call (.ref 274) [.ref T, .int (i : Int) ti]) fun v h' => NewIds s.heap h' v r.ch := by
  refine fill0 ?_; k_fill; intro _
  intro Q E ret
  obtain ⟨hA, dp, frs, gds, un⟩ := A; obtain rfl : hA = none := hd.handled
  refine enter B (st := methAt 18 19) (f := 274) (binds := [(Str.ofString "self", .ref T), (Str.ofString "node", .int (i : Int) ti)]) (by k_is) rfl (by k_is) hd.room (by rfl) (by rfl) ?_
  obtain ⟨t, n, hdT⟩ := hT.dict
  have hTi := hT.inst
  have hRow := hT.all r (List.mem_of_getElem? hi)
  have hRi := hRow.inst
  obtain ⟨oR, hRd, t1, t2, t3, t4, t5, t6, t7, t8, t9, u1, u2, u3, u4, u5, u6, nR, rfl⟩ := hRow.dict
  obtain ⟨vs, hL, hI⟩ := hRow.ch
  have hz : vs.length ≤ sizeLine := size_ids hI hRow.small.1
  have X := B.X
  have T' := B.T
  intro h₁ tk F
  have N : News s.heap s.heap.objs.size h₁ [] := News.nil
  k_steps
  (rename News _ _ _ _ => N9)
  exact ret _ _ _ (Fr.keep (by assumption)) ⟨_, rfl, ⟨vs, ⟨_, (N9 _ (.head _)).1⟩, hI⟩, (N9 _ (.head _)).2.2⟩
theorem namespaces_c (B : Bs w p loose mean mg mb s.heap) (hd : Rm A 2) {T dT R : Addr} {rs : List Row} (hT : TreeAt w.params s.heap T dT R rs) {i : Nat} {ti : Tok} {r : Row} (hi : rs[i]? = some r) :
    RO w A s (call (.ref 288) [.ref T, .int (i : Int) ti]) fun v h' => NewIds s.heap h' v r.nss := by
  refine fill0 ?_; k_fill; intro _
  intro Q E ret
  obtain ⟨hA, dp, frs, gds, un⟩ := A; obtain rfl : hA = none := hd.handled
  refine enter B (st := methAt 18 21) (f := 288) (binds := [(Str.ofString "self", .ref T), (Str.ofString "node", .int (i : Int) ti)]) (by k_is) rfl (by k_is) hd.room (by rfl) (by rfl) ?_
  obtain ⟨t, n, hdT⟩ := hT.dict
  have hTi := hT.inst
  have hRow := hT.all r (List.mem_of_getElem? hi)
  have hRi := hRow.inst
  obtain ⟨oR, hRd, t1, t2, t3, t4, t5, t6, t7, t8, t9, u1, u2, u3, u4, u5, u6, nR, rfl⟩ := hRow.dict
  obtain ⟨vs, hL, hI⟩ := hRow.nss
  have hz : vs.length ≤ sizeLine := size_ids hI hRow.small.2.2
  have X := B.X
  have T' := B.T
  intro h₁ tk F
  have N : News s.heap s.heap.objs.size h₁ [] := News.nil
  k_steps
  (rename News _ _ _ _ => N9)
  exact ret _ _ _ (Fr.keep (by assumption)) ⟨_, rfl, ⟨vs, ⟨_, (N9 _ (.head _)).1⟩, hI⟩, (N9 _ (.head _)).2.2⟩
end
/-- the numbers above a node, the nearest first -/
inductive Up (rs : List Row) : Nat → List Nat → Prop
  | top {i : Nat} {r : Row} : rs[i]? = some r → r.par = none → Up rs i []
  | step {i j : Nat} {r : Row} {l : List Nat} : rs[i]? = some r → r.par = some j → Up rs j l → Up rs i (j :: l)
noncomputable def UpV (rs : List Row) : List Nat → Prop
  | [] => True
  | j :: r => Up rs j r
theorem Up.row {rs : List Row} {i : Nat} {l : List Nat} (h : Up rs i l) : ∃ r, rs[i]? = some r ∧ r.par = l.head? ∧ UpV rs l := by
  cases h with
  | top a b => exact ⟨_, a, b, trivial⟩
  | step a b c => exact ⟨_, a, b, c⟩
theorem rows_f : True := by
  (k_with "call ref" => (k_here; k_dflt ((first | ((with_reducible show wpAny _ _ (call (Value.ref 232) _) _ _ _); refine' useRO ?qF ?qN (kind_c (Bs.keeps ?qB (Fr.keep ?qF2)) ?qd (TreeAt.keeps ?qT (Fr.keep ?qF3)) ?qi) ?_) | ((with_reducible show wpAny _ _ (call (Value.ref 239) _) _ _ _); refine' useRO ?qF ?qN (name_c (Bs.keeps ?qB (Fr.keep ?qF2)) ?qd (TreeAt.keeps ?qT (Fr.keep ?qF3)) ?qi) ?_) | ((with_reducible show wpAny _ _ (call (Value.ref 260) _) _ _ _); refine' useRO ?qF ?qN (value_c (Bs.keeps ?qB (Fr.keep ?qF2)) ?qd (TreeAt.keeps ?qT (Fr.keep ?qF3)) ?qi) ?_) | ((with_reducible show wpAny _ _ (call (Value.ref 267) _) _ _ _); refine' useRO ?qF ?qN (parent_c (Bs.keeps ?qB (Fr.keep ?qF2)) ?qd (TreeAt.keeps ?qT (Fr.keep ?qF3)) ?qi) ?_)); (case qF | qN | qB | qF2 | qT | qF3 | qi => k_asm); (case qd => exact Rm.sub (by assumption) (by decide)); k_whole); walk_at "roV"))
  (k_with "call ref" => (k_here; k_dflt ((first | ((with_reducible show wpAny _ _ (call (Value.ref 274) _) _ _ _); refine' useNew ?qF ?qN (children_c (Bs.keeps ?qB (Fr.keep ?qF2)) ?qd (TreeAt.keeps ?qT (Fr.keep ?qF3)) ?qi) ?_) | ((with_reducible show wpAny _ _ (call (Value.ref 288) _) _ _ _); refine' useNew ?qF ?qN (namespaces_c (Bs.keeps ?qB (Fr.keep ?qF2)) ?qd (TreeAt.keeps ?qT (Fr.keep ?qF3)) ?qi) ?_)); (case qF | qN | qB | qF2 | qT | qF3 | qi => k_asm); (case qd => exact Rm.sub (by assumption) (by decide)); k_whole); walk_at "roN"))
  trivial
section
variable {w : World} {p : Program} {loose : List Str} {mean : ExcName → Option Value} {mg mb : Str → Option Value} {A : Around} {s : Shared}
theorem ancestors_c (B : Bs w p loose mean mg mb s.heap) (hd : Rm A 3) {T dT R : Addr} {rs : List Row} (hT : TreeAt w.params s.heap T dT R rs) {i : Nat} {ti : Tok} {l : List Nat} (hU : Up rs i l) (hl : l.length ≤ 1000) :
    RO w A s (call (.ref 28) [.ref T, .int (i : Int) ti]) fun v h' => NewIds s.heap h' v l := by
  refine fill0 ?_; k_fill; intro _
  intro Q E ret
  obtain ⟨hA, dp, frs, gds, un⟩ := A; obtain rfl : hA = none := hd.handled
  refine enter B (st := stmtAt 2) (f := 28) (binds := [(Str.ofString "tree", .ref T), (Str.ofString "node", .int (i : Int) ti)]) (by k_is) rfl (by k_is) hd.room (by rfl) (by rfl) ?_
  obtain ⟨t, n, hdT⟩ := hT.dict
  have hTi := hT.inst
  obtain ⟨r, hr, hpar, hV⟩ := hU.row
  have X := B.X
  have T' := B.T
  intro h₁ tk F
  have N : News s.heap s.heap.objs.size h₁ [] := News.nil
  k_steps
  unfold Stop
  (rename Fr _ _ _ _ => F1); (rename News _ _ _ _ => N1)
  rename_i D _ _ _ _ _ u0 _ _ _ _ _ _
  refine While_inv (fun n m nx => ∃ pre rest u vs c, Has m [(Str.ofString "tree", .ref T), (Str.ofString "found", .ref D), (Str.ofString "here", parV rest.head? u)] ∧ nx = [(D, listOf vs.toArray c)] ∧
    IntsAre vs (pre.map Int.ofNat) ∧ pre ++ rest = l ∧ UpV rs rest ∧ rest.length = n) (n₀ := l.length) F1 (fun p hp => N1 p (.tail _ hp)) ⟨[], l, u0, [], 0, ⟨rfl, rfl, congrArg (fun o => some (parV o u0)) hpar, trivial⟩, rfl, .nil, rfl, hV, rfl⟩ ?_
  clear F1 N1
  rintro n m₁ news₁ h₂ tk₂ F1 N1 ⟨pre, rest, u, vs, c, hm, rfl, hI, hcat, hVr, hlen⟩
  have F2 := fr_has F1 hm
  clear F1
  cases rest with
  | nil =>
    dsimp only [setL, parV, List.head?_nil] at F2
    k_steps
    rw [List.append_nil] at hcat
    subst hcat
    exact ret _ _ _ F2.keep ⟨D, rfl, ⟨vs, ⟨_, (N1 _ (.head _)).1⟩, hI⟩, (N1 _ (.head _)).2.2⟩
  | cons j rest =>
    obtain ⟨rj, hrj, hparj, hVj⟩ := Up.row hVr
    have hz : vs.toArray.size ≤ sizeLine := size_of (by rw [ids_size hI]; have := congrArg List.length hcat; rw [List.length_append] at this; omega)
    dsimp only [setL, parV, List.head?_cons] at F2
    k_steps
    unfold Stop
    (rename Fr _ _ _ _ => F3); (rename News _ _ _ _ => N3)
    rw [List.push_toArray] at N3
    exact WhileStep.intro F3 N3 (by rw [← hlen]; exact Nat.lt_succ_self _) ⟨pre ++ [j], rest, _, _, _, ⟨rfl, rfl, congrArg (fun o => some (parV o _)) hparj, trivial⟩, rfl, ids_snoc hI j u, by rw [List.append_assoc]; exact hcat, hVj, rfl⟩
end
section
variable {w : World} {p : Program} {loose : List Str} {mean : ExcName → Option Value} {mg mb : Str → Option Value} {A : Around} {s : Shared}
theorem lines_down_c (B : Bs w p loose mean mg mb s.heap) (hd : Rm A 3) {T dT R : Addr} {rs : List Row} (hT : TreeAt w.params s.heap T dT R rs) {i : Nat} {ti : Tok} {l : List Nat} (hU : Up rs i l) (hl : l.length < 1000) :
    RO w A s (call (.ref 40) [.ref T, .int (i : Int) ti]) fun v h' => NewIds s.heap h' v (i :: l).reverse := by
  refine fill0 ?_; k_fill; intro _
  intro Q E ret
  obtain ⟨hA, dp, frs, gds, un⟩ := A; obtain rfl : hA = none := hd.handled
  refine enter B (st := stmtAt 6) (f := 40) (binds := [(Str.ofString "tree", .ref T), (Str.ofString "node", .int (i : Int) ti)]) (by k_is) rfl (by k_is) hd.room (by rfl) (by rfl) ?_
  obtain ⟨t, n, hdT⟩ := hT.dict
  have hTi := hT.inst
  have X := B.X
  have T' := B.T
  intro h₁ tk F
  have N : News s.heap s.heap.objs.size h₁ [] := News.nil
  k_steps
  unfold Stop
  (rename Fr _ _ _ _ => F1); (rename News _ _ _ _ => N1)
  rename_i D _ _ _
  refine While_inv (fun n m nx => ∃ pre rest u vs c, Has m [(Str.ofString "tree", .ref T), (Str.ofString "found", .ref D), (Str.ofString "node", parV rest.head? u)] ∧ nx = [(D, listOf vs.toArray c)] ∧
    IntsAre vs (pre.map Int.ofNat) ∧ pre ++ rest = i :: l ∧ UpV rs rest ∧ rest.length = n) (n₀ := l.length + 1) F1 N1 ⟨[], i :: l, ti, [], 0, ⟨rfl, rfl, rfl, trivial⟩, rfl, .nil, rfl, hU, rfl⟩ ?_
  clear F1 N1
  rintro n m₁ news₁ h₂ tk₂ F1 N1 ⟨pre, rest, u, vs, c, hm, rfl, hI, hcat, hVr, hlen⟩
  have F2 := fr_has F1 hm
  clear F1
  have hz : vs.toArray.size ≤ sizeLine := size_of (by rw [ids_size hI]; have := congrArg List.length hcat; rw [List.length_append, List.length_cons] at this; omega)
  cases rest with
  | nil =>
    dsimp only [setL, parV, List.head?_nil] at F2
    k_steps
    rw [List.append_nil] at hcat
    subst hcat
    (rename IntsAre _ (List.reverse _) => hR); (rename News _ _ _ _ => N3)
    rw [← List.map_reverse] at hR
    exact ret _ _ _ (Fr.keep (by assumption)) ⟨_, rfl, ⟨_, ⟨_, (N3 _ (.head _)).1⟩, hR⟩, (N3 _ (.head _)).2.2⟩
  | cons j rest =>
    obtain ⟨rj, hrj, hparj, hVj⟩ := Up.row hVr
    dsimp only [setL, parV, List.head?_cons] at F2
    k_steps
    unfold Stop
    (rename Fr _ _ _ _ => F3); (rename News _ _ _ _ => N3)
    rw [List.push_toArray] at N3
    exact WhileStep.intro F3 N3 (by rw [← hlen]; exact Nat.lt_succ_self _) ⟨pre ++ [j], rest, _, _, _, ⟨rfl, rfl, congrArg (fun o => some (parV o _)) hparj, trivial⟩, rfl, ids_snoc hI j u, by rw [List.append_assoc]; exact hcat, hVj, rfl⟩
end
noncomputable def SK (x : String) : Str := PySem.Str.ofString x
/-- the pair that orders b among all beneath a -/
inductive Among (rs : List Row) (a b : Nat) : Int → Int → Prop
  | ns {ra rb : Row} : rs[a]? = some ra → rs[b]? = some rb → rb.kind = Str.ofString "namespace" → b ∈ ra.nss → Among rs a b 0 (ra.nss.idxOf b : Nat)
  | el {ra rb : Row} : rs[a]? = some ra → rs[b]? = some rb → rb.kind = Str.ofString "element" → b ∈ ra.ch → Among rs a b 2 (ra.ch.idxOf b : Nat)
section
variable {w : World} {p : Program} {loose : List Str} {mean : ExcName → Option Value} {mg mb : Str → Option Value} {A : Around} {s : Shared}
theorem place_among_c (B : Bs w p loose mean mg mb s.heap) (hd : Rm A 3) {T dT R : Addr} {rs : List Row} (hT : TreeAt w.params s.heap T dT R rs) {a b : Nat} {ta tb : Tok} {x y : Int} (hab : Among rs a b x y) :
    RO w A s (call (.ref 47) [.ref T, .int (a : Int) ta, .int (b : Int) tb]) fun v h' => NewTup s.heap h' v [x, y] := by
  refine fill0 ?_; k_fill; intro _
  intro Q E ret
  obtain ⟨hA, dp, frs, gds, un⟩ := A; obtain rfl : hA = none := hd.handled
  refine enter B (st := stmtAt 7) (f := 47) (binds := [(Str.ofString "tree", .ref T), (Str.ofString "parent", .int (a : Int) ta), (Str.ofString "node", .int (b : Int) tb)]) (by k_is) rfl (by k_is) hd.room (by rfl) (by rfl) ?_
  obtain ⟨t, n, hdT⟩ := hT.dict
  have hTi := hT.inst
  have X := B.X
  have T' := B.T
  cases hab with
  | ns hra hrb hk hm =>
    rename_i ra rb
    have hk1 : (rb.kind == Str.ofString "namespace") = true := by rw [hk]; decide +kernel
    have hlow : (∀ i ∈ ra.nss, i < 1000) ∧ ra.nss.length ≤ 1000 := ⟨fun i hi => (hT.all ra (List.mem_of_getElem? hra)).low i (.inr hi), (hT.all ra (List.mem_of_getElem? hra)).small.2.2⟩
    intro h₁ tk F
    have N : News s.heap s.heap.objs.size h₁ [] := News.nil
    k_steps
    (rename News _ _ _ _ => N9)
    exact ret _ _ _ (Fr.keep (by assumption)) ⟨_, [_, _], _, rfl, (N9 _ (.head _)).1, .cons _ _ (.cons _ _ .nil), (N9 _ (.head _)).2.2⟩
  | el hra hrb hk hm =>
    rename_i ra rb
    have hk1 : (rb.kind == Str.ofString "namespace") = false := by rw [hk]; decide +kernel
    have hk2 : (rb.kind == Str.ofString "attribute") = false := by rw [hk]; decide +kernel
    have hlow : (∀ i ∈ ra.ch, i < 1000) ∧ ra.ch.length ≤ 1000 := ⟨fun i hi => (hT.all ra (List.mem_of_getElem? hra)).low i (.inl hi), (hT.all ra (List.mem_of_getElem? hra)).small.1⟩
    intro h₁ tk F
    have N : News s.heap s.heap.objs.size h₁ [] := News.nil
    k_steps
    (rename News _ _ _ _ => N9)
    exact ret _ _ _ (Fr.keep (by assumption)) ⟨_, [_, _], _, rfl, (N9 _ (.head _)).1, .cons _ _ (.cons _ _ .nil), (N9 _ (.head _)).2.2⟩
end
/-- the rest of a place, from a down -/
inductive PlaceTail (rs : List Row) : Nat → List Nat → List Int → Prop
  | nil {a : Nat} : PlaceTail rs a [] []
  | cons {a b : Nat} {x y : Int} {l : List Nat} {ps : List Int} : Among rs a b x y → PlaceTail rs b l ps → PlaceTail rs a (b :: l) (x :: y :: ps)
theorem PlaceTail.len {rs : List Row} {a : Nat} {l : List Nat} {ps : List Int} (h : PlaceTail rs a l ps) : ps.length = 2 * l.length := by
  induction h with
  | nil => rfl
  | cons _ _ ih => simp only [List.length_cons, ih]; omega
/-- what stands between the turns of place_of -/
inductive PlJ (rs : List Row) (T I l0 D1 : Addr) (lo l1 : Obj) (a : Nat) (ps : List Int) : List Itm → (Str → Option Value) → List (Addr × Obj) → Prop
  | mk {a' : Nat} {rest' : List Nat} {va : Value} {vr wr vf : List Value} {n : Nat} {ps1 ps2 : List Int} {Df : Addr} {m : Str → Option Value} {nx : List (Addr × Obj)} : IntsAre (va :: vr) ((a' :: rest').map Int.ofNat) → IntsAre wr (rest'.map Int.ofNat) → PlaceTail rs a' rest' ps2 → ps1 ++ ps2 = ps → IntsAre vf ((a : Int) :: ps1) →
    (l0, lo) ∈ nx → (D1, l1) ∈ nx → Has m [(Str.ofString "tree", .ref T), (Str.ofString "found", .ref Df)] → (Df, tupO vf n) ∈ nx → (@LT.lt Nat _ Df I ∨ @LT.lt Nat _ (@HAdd.hAdd Nat Nat Nat _ I 4) Df) → PlJ rs T I l0 D1 lo l1 a ps (zipItems (va :: vr) wr) m nx
theorem rows_g : True := by
  (k_with "call ref" => (k_here; k_dflt ((first | ((with_reducible show wpAny _ _ (call (Value.ref 40) _) _ _ _); refine' useNew ?qF ?qN (lines_down_c (Bs.keeps ?qB (Fr.keep ?qF2)) ?qd (TreeAt.keeps ?qT (Fr.keep ?qF3)) ?qU ?ql) ?_) | ((with_reducible show wpAny _ _ (call (Value.ref 28) _) _ _ _); refine' useNew ?qF ?qN (ancestors_c (Bs.keeps ?qB (Fr.keep ?qF2)) ?qd (TreeAt.keeps ?qT (Fr.keep ?qF3)) ?qU ?ql) ?_)); (case qF | qN | qB | qF2 | qT | qF3 | qU | ql => k_asm); (case qd => exact Rm.sub (by assumption) (by decide)); k_whole); walk_at "roN"))
  (k_with "call ref" => (k_here; k_dflt ((with_reducible show wpAny _ _ (call (Value.ref 47) _) _ _ _); refine' useTup ?qF ?qN (place_among_c (Bs.keeps ?qB (Fr.keep ?qF2)) ?qd (TreeAt.keeps ?qT (Fr.keep ?qF3)) ?qU) ?_; (case qF | qN | qB | qF2 | qT | qF3 | qU => k_asm); (case qd => exact Rm.sub (by assumption) (by decide)); k_whole); walk_at "roN"))
  trivial
section
variable {w : World} {p : Program} {loose : List Str} {mean : ExcName → Option Value} {mg mb : Str → Option Value} {A : Around} {s : Shared}
theorem place_of_c (B : Bs w p loose mean mg mb s.heap) (hd : Rm A 4) {T dT R : Addr} {rs : List Row} (hT : TreeAt w.params s.heap T dT R rs) {i : Nat} {ti : Tok} {l : List Nat} (hU : Up rs i l) (hl : l.length < 100) {a : Nat} {rest : List Nat} {ps : List Int} (he : (i :: l).reverse = a :: rest) (hp : PlaceTail rs a rest ps) :
    RO w A s (call (.ref 54) [.ref T, .int (i : Int) ti]) fun v h' => NewTup s.heap h' v ((a : Int) :: ps) := by
  refine fill0 ?_; k_fill; intro _
  obtain ⟨hp0, gn, dr, tk0, os⟩ := s
  dsimp only at B hT
  intro Q E ret
  dsimp only at ret
  obtain ⟨hA, dp, frs, gds, un⟩ := A; obtain rfl : hA = none := hd.handled
  refine enter B (st := stmtAt 8) (f := 54) (binds := [(Str.ofString "tree", .ref T), (Str.ofString "node", .int (i : Int) ti)]) (by k_is) rfl (by k_is) hd.room (by rfl) (by rfl) ?_
  obtain ⟨t, n, hdT⟩ := hT.dict
  have hTi := hT.inst
  have X := B.X
  have T' := B.T
  have hl' : l.length < 1000 := by omega
  intro h₁ tk F
  dsimp only at F ⊢
  have N : News hp0 hp0.objs.size h₁ [] := News.nil
  k_steps
  unfold Stop
  (rename Fr _ _ _ _ => F1)
  rename_i l0 vs0 n0 _ _ hI0 _ _ _ t0 D0 _ _ _ _
  refine For_turns F1 ?_
  k_steps
  unfold Stop
  (rename Fr _ _ _ _ => F1); (rename News _ _ _ _ => N1)
  rename_i D1 ws1 _ hI1 _ _ _
  rw [he] at hI0 hI1 N1
  refine ktu_zip (lo1 := listOf vs0.toArray n0) (lo2 := listOf ws1.toArray 0) (xs := vs0) (ys := ws1) rfl F1 N1 (.tail _ (.tail _ (.head _))) rfl rfl (.head _) rfl rfl fun I hI => ?_
  have hI1' : IntsAre ws1 (rest.map Int.ofNat) := hI1
  refine items_ind (PlJ rs T I l0 D1 (listOf vs0.toArray n0) (listOf ws1.toArray 0) a ps) ?nil ?cons _ _ _ ?start
  case start =>
    have hD0 : D0 < I := hI _ (.tail _ (.head _))
    cases hI0 with
    | cons _ t1 hI2 =>
      exact .mk (ps1 := []) (.cons _ t1 hI2) hI1' hp rfl (.cons (a : Int) t0 .nil) (.tail _ (.tail _ (.head _))) (.head _) ⟨rfl, rfl, trivial⟩ (.tail _ (.head _)) (.inl hD0)
  case nil =>
    intro m nx h tk hJ F2 N2
    generalize e : ([] : List Itm) = xs at hJ
    cases hJ with
    | mk hI hW hP hps hf hm1 hm2 hm hDf hd4 =>
    rename_i a' rest' va vr wr vf n ps1 ps2 Df
    have F3 := fr_has F2 hm
    dsimp only [setL, envOf] at F3
    have N3 := news_sub N2 (l' := [(Df, { cls := .type "tuple", data := .seq vf.toArray n })]) (fun p hp => by rw [List.mem_singleton.mp hp]; exact hDf)
    dsimp only [envOf] at N3
    clear F1 N1 F2 N2
    cases rest' with
    | nil =>
      cases hP
      rw [List.append_nil] at hps
      subst hps
      k_steps
      exact ret _ _ _ F3.keep ⟨Df, vf, n, rfl, (N3 _ (.head _)).1, hf, (N3 _ (.head _)).2.2⟩
    | cons b r => cases hW with | cons _ t2 hW2 => simp [zipItems] at e
  case cons =>
    intro itm r m nx v h tk hJ hv F2
    generalize e : itm :: r = xs at hJ
    cases hJ with
    | mk hI hW hP hps hf hm1 hm2 hm hDf hd4 =>
    rename_i a' rest' va vr wr vf n ps1 ps2 Df
    cases rest' with
    | nil => cases hW; simp [zipItems] at e
    | cons b rest'' =>
      cases hI with
      | cons _ t1 hI2 =>
      cases hI2 with
      | cons _ t3 hI3 =>
      cases hW with
      | cons _ t2 hW2 =>
      obtain ⟨rfl, rfl⟩ := List.cons.inj e
      obtain ⟨Tp, tq, rfl, hTp⟩ := hv
      cases hP with
      | cons hAm hP' =>
      refine AllObj.cons fun o1 ho1 => AllObj.cons fun o2 ho2 => AllObj.cons fun o3 ho3 => AllObj.cons fun o4 ho4 => AllObj.cons fun o5 ho5 => AllObj.nil fun N2 => ?_
      have N3 := news_sub N2 (l' := [(I + 4, o1), (I + 2, o2), (I + 3, o3), (I, o4), (I + 1, o5), (Df, { cls := .type "tuple", data := .seq vf.toArray n }), (D1, listOf ws1.toArray 0), (l0, listOf vs0.toArray n0)]) (fun p hp => by
        simp only [List.mem_cons, List.not_mem_nil, or_false] at hp
        rcases hp with rfl | rfl | rfl | rfl | rfl | rfl | rfl | rfl
        · exact .head _
        · exact .tail _ (.head _)
        · exact .tail _ (.tail _ (.head _))
        · exact .tail _ (.tail _ (.tail _ (.head _)))
        · exact .tail _ (.tail _ (.tail _ (.tail _ (.head _))))
        · exact List.mem_append_right _ hDf
        · exact List.mem_append_right _ hm2
        · exact List.mem_append_right _ hm1)
      have F3 := fr_has F2 hm
      dsimp only [setL, envOf] at F3
      dsimp only [envOf] at N3
      clear F1 N1 F2 N2
      dsimp only at ho1 ho2 ho3 ho4 ho5
      have hz : vf.length ≤ 1000 := by
        have h1 := hf.length
        have h2 := congrArg List.length hps
        have h3 := hp.len
        have h4 := congrArg List.length he
        simp only [List.length_append, List.length_reverse, List.length_cons] at h1 h2 h4
        omega
      generalize hPo : UnrPostW _ _ _ _ _ _ = Po
      k_steps
      subst hPo
      show UnrEndW _ _ _ _ _ _
      (rename Fr _ _ _ _ => F4); (rename News _ _ _ _ => N4); (rename IntsAre (_ ++ _) _ => hi4)
      rename_i D4 _ hl4 _
      refine UnrEndW.intro F4 N4 [(D4, tupO _ 0), (D1, listOf ws1.toArray 0), (l0, listOf vs0.toArray n0)] (by k_subL) (by k_subL) (by ktu_offL) ⟨by k_subL, ?_⟩
      exact .mk (ps1 := ps1 ++ [_, _]) (.cons _ t3 hI3) hW2 hP' (by rw [List.append_assoc]; exact hps) hi4 (.tail _ (.tail _ (.head _))) (.tail _ (.head _)) ⟨rfl, rfl, trivial⟩ (.head _) (.inr (by omega))
end
/-- the order of tuples of ints -/
noncomputable def lexLt : List Int → List Int → Bool
  | [], [] => false
  | [], _ :: _ => true
  | _ :: _, [] => false
  | x :: xs, y :: ys => if x = y then lexLt xs ys else decide (x < y)
section
variable {w : World} {A : Around} {s : Shared} {E : Value → Shared → Prop}
theorem tup_lt_tree {ns ms : List Int} {vs us : List Value} {a b : Addr} {n k : Nat} {P : PySem.Fin → Shared → Prop} (hx : s.heap.get? a = some (tupO vs n)) (hy : s.heap.get? b = some (tupO us k)) (hi : IntsAre vs ns) (hj : IntsAre us ms)
    (h : P (.done (.ret (.bool (lexLt ns ms)))) s) : wpAny (model prg w) A (Builtin.«tuple.__lt__» ⟨[.ref a, .ref b], []⟩) P E s := by
  have hTb : s.TypeIs (.ref b) "tuple" := ⟨_, hy, rfl⟩
  show wpAny _ _ (isInstance (.ref b) (.type "tuple") >>= _) _ _ s
  refine wpAny_bind (wpAny_isInstance hTb isSubtype_tuple_tuple ?_)
  simp only [Bool.not_true, Bool.false_eq_true, if_false]
  refine wpAny_bind (wpAny_tupleItemsOf hx rfl ?_)
  refine wpAny_bind (wpAny_tupleItemsOf hy rfl ?_)
  refine wpAny_bind ?_
  refine wpAny_forIn_list _
    (fun rest r s' => r.1 = none ∧ s' = s ∧ ∃ x' y' xs' ys', rest = List.zip xs' ys' ∧ IntsAre xs' x' ∧ IntsAre ys' y' ∧ lexLt x' y' = lexLt ns ms ∧ (decide (xs'.length < ys'.length)) = (decide (vs.length < us.length)))
    _ ?_ ?_ _ _ ⟨rfl, rfl, ns, ms, vs, us, rfl, hi, hj, rfl, rfl⟩
  · rintro ⟨u, v⟩ rest r s' ⟨hr, rfl, x', y', xs', ys', hz, hx', hy', hdec, hlen⟩
    cases hx' with
    | nil => simp at hz
    | @cons k1 t1 u' x'' hx'' =>
      cases hy' with
      | nil => simp at hz
      | @cons k2 t2 v' y'' hy'' =>
        simp only [List.zip_cons_cons, List.cons.injEq, Prod.mk.injEq] at hz
        obtain ⟨⟨rfl, rfl⟩, rfl⟩ := hz
        refine wpAny_bind (wpAny_eqBool_int ?_)
        by_cases hk : k1 = k2
        · subst hk
          rw [beq_self_eq_true]
          simp only [Bool.not_true, Bool.false_eq_true, if_false]
          refine wpAny_pure ⟨rfl, rfl, x'', y'', _, _, rfl, hx'', hy'', ?_, by simpa using hlen⟩
          rw [← hdec]
          simp [lexLt]
        · rw [beq_eq_false_iff_ne.mpr hk]
          simp only [Bool.not_false, if_true]
          have hf : lexLt ns ms = decide (k1 < k2) := by rw [← hdec]; simp [lexLt, hk]
          rw [hf] at h
          refine wpAny_bind (wpAny_rule ?_)
          refine wpAny_bind (wpAny_lt_int ?_)
          exact wpAny_bind (wpAny_pure (wpAny_pure (wpAny_pure h)))
  · rintro ⟨r1, r2⟩ s' ⟨hr, rfl, x', y', xs', ys', hz, hx', hy', hdec, hlen⟩
    simp only at hr
    subst hr
    refine wpAny_pure ?_
    have hfin : decide (vs.length < us.length) = lexLt ns ms := by
      rw [← hdec, ← hlen]
      cases hx' with
      | nil =>
        cases hy' with
        | nil => simp [lexLt]
        | cons _ _ _ => simp [lexLt]
      | cons _ _ _ =>
        cases hy' with
        | nil => simp [lexLt]
        | cons _ _ _ => simp at hz
    show P (.done (.ret (.bool (decide (vs.toArray.size < us.toArray.size))))) s'
    rw [List.size_toArray, List.size_toArray, hfin]; exact h
theorem tup_lt {ns ms : List Int} {vs us : List Value} {a b : Addr} {n k : Nat} {Q : Value → Shared → Prop} (hu : A.units < cLine) (hx : s.heap.get? a = some (tupO vs n)) (hy : s.heap.get? b = some (tupO us k)) (hi : IntsAre vs ns) (hj : IntsAre us ms)
    (h : Q (.bool (lexLt ns ms)) s) : wpAny (model prg w) A (compareOp .Lt (.ref a) (.ref b)) Q E s := by
  have hTa : s.TypeIs (.ref a) "tuple" := ⟨_, hx, rfl⟩
  have hTb : s.TypeIs (.ref b) "tuple" := ⟨_, hy, rfl⟩
  exact wpAny_richCompare_same_room (op := .Lt) hTa hTb PySem.F.slot_tuple_lt
    (wpAny_call_entry PySem.F.slot_tuple_lt hTa PySem.F.entry_tuple_lt (tup_lt_tree hx hy hi hj ⟨_, rfl, (fun e => nomatch e), h⟩) (PySem.F.args_tuple_lt_2 _ _)) hu
end
theorem Rm.units0 {A : Around} {k : Nat} (h : Rm A k) : A.units < cLine := by have := h.units; omega
/-- the place of a node -/
inductive Place (rs : List Row) (i : Nat) : List Int → Prop
  | mk {l : List Nat} {a : Nat} {rest : List Nat} {ps : List Int} : Up rs i l → l.length < 100 → (i :: l).reverse = a :: rest → PlaceTail rs a rest ps → Place rs i ((a : Int) :: ps)
section
variable {w : World} {p : Program} {loose : List Str} {mean : ExcName → Option Value} {mg mb : Str → Option Value} {A : Around} {s : Shared}
theorem place_c (B : Bs w p loose mean mg mb s.heap) (hd : Rm A 4) {T dT R : Addr} {rs : List Row} (hT : TreeAt w.params s.heap T dT R rs) {i : Nat} {ti : Tok} {ps : List Int} (hP : Place rs i ps) :
    RO w A s (call (.ref 54) [.ref T, .int (i : Int) ti]) fun v h' => NewTup s.heap h' v ps := by
  cases hP with
  | mk a b c d => exact place_of_c B hd hT a b c d
end
theorem rows_h : True := by
  (k_with "call ref" => (k_here; k_dflt ((with_reducible show wpAny _ _ (call (Value.ref 54) _) _ _ _); refine' useTup ?qF ?qN (place_c (Bs.keeps ?qB (Fr.keep ?qF2)) ?qd (TreeAt.keeps ?qT (Fr.keep ?qF3)) ?qU) ?_; (case qF | qN | qB | qF2 | qT | qF3 | qU => k_asm); (case qd => exact Rm.sub (by assumption) (by decide)); k_whole); walk_at "roN"))
  (k_with "compareOp Lt ref ref" => (k_here; k_dflt (refine' tup_lt ?qu ?qa ?qb ?qi ?qj ?_; (case qa => exact News.get (by k_asm) (by k_mem)); (case qb => exact News.get (by k_asm) (by k_mem)); (case qi => k_asm); (case qj => k_asm); (case qu => exact Rm.units0 (k := 4) (Rm.sub (by assumption) (by decide))); k_whole)))
  trivial
section
variable {w : World} {p : Program} {loose : List Str} {mean : ExcName → Option Value} {mg mb : Str → Option Value} {A : Around} {s : Shared}
theorem is_before_c (B : Bs w p loose mean mg mb s.heap) (hd : Rm A 5) {T dT R : Addr} {rs : List Row} (hT : TreeAt w.params s.heap T dT R rs) {i j : Nat} {ti tj : Tok} {ps qs : List Int} (hp : Place rs i ps) (hq : Place rs j qs) :
    RO w A s (call (.ref 66) [.ref T, .int (i : Int) ti, .int (j : Int) tj]) fun v h' => v = .bool (lexLt ps qs) := by
  refine fill0 ?_; k_fill; intro _
  obtain ⟨hp0, gn, dr, tk0, os⟩ := s
  dsimp only at B hT
  intro Q E ret
  dsimp only at ret
  obtain ⟨hA, dp, frs, gds, un⟩ := A; obtain rfl : hA = none := hd.handled
  refine enter B (st := stmtAt 10) (f := 66) (binds := [(Str.ofString "tree", .ref T), (Str.ofString "one", .int (i : Int) ti), (Str.ofString "other", .int (j : Int) tj)]) (by k_is) rfl (by k_is) hd.room (by rfl) (by rfl) ?_
  obtain ⟨t, n, hdT⟩ := hT.dict
  have hTi := hT.inst
  have X := B.X
  have T' := B.T
  intro h₁ tk F
  dsimp only at F ⊢
  have N : News hp0 hp0.objs.size h₁ [] := News.nil
  k_steps
  (rename Fr _ _ _ _ => F1)
  exact ret _ _ _ F1.keep rfl
end
theorem mark_none (A : Around) : A.mark none = A := by cases A; rfl
theorem compTurn_two0 (elt t0 it0 t1 it1 : Expr) (ifs : List Expr) (scope : Scope) (pos : Pos) (it acc : Value) (env : Env) :
    compTurn (.ListComp elt [⟨t0, it0, [], 0⟩, ⟨t1, it1, ifs, 0⟩] scope pos) 0 it acc env = (do
      standAt it0.pos
      match ← pyNext it with
      | none => pure (.done .next)
      | some v =>
        letOwnedTupleGo t0 it v
        assign t0 env v
        let x ← eval it1 env
        standAt it1.pos
        let x ← foldedSetIterable it1 env x
        let _ ← runOwn (.compStart (.ListComp elt [⟨t0, it0, [], 0⟩, ⟨t1, it1, ifs, 0⟩] scope pos) 1 (← holding [x] (pyIter x)) acc env) env
        again (.compLoop (.ListComp elt [⟨t0, it0, [], 0⟩, ⟨t1, it1, ifs, 0⟩] scope pos) 0 it acc env)) := by rfl
theorem compTurn_two1 (elt t0 it0 t1 it1 : Expr) (ifs : List Expr) (scope : Scope) (pos : Pos) (it acc : Value) (env : Env) :
    compTurn (.ListComp elt [⟨t0, it0, [], 0⟩, ⟨t1, it1, ifs, 0⟩] scope pos) 1 it acc env = (do
      standAt it1.pos
      match ← pyNext it with
      | none => pure (.done .next)
      | some v =>
        letOwnedTupleGo t1 it v
        assign t1 env v
        let mut ok := true
        for c in ifs do
          if ok then ok ← isTrue c env (eval c env)
        if ok then
          (do let _ ← call (.builtin "list.append") [acc, ← eval elt env])
        again (.compLoop (.ListComp elt [⟨t0, it0, [], 0⟩, ⟨t1, it1, ifs, 0⟩] scope pos) 1 it acc env)) := by rfl
section
variable {prog : Program} {w : World} {A : Around} {E : Value → Shared → Prop} {R : Result → Shared → Prop} {s : Shared}
theorem two1_loop {elt t0 it0 t1 it1 : Expr} {ifs : List Expr} {scope : Scope} {pos : Pos} {it acc : Value} {env : Env} (I : Nat → Shared → Prop)
    (turn : ∀ n s (E' : Value → Shared → Prop), I n s → wpAny (model prog w) A (pyNext it) (fun r s₁ => match r with
      | none => R (.ok .next) s₁
      | some v => wpAny (model prog w) A (assign t1 env v) (fun _ s₂ =>
          wpAny (model prog w) A (forIn ifs true fun c r => if r = true then do let ok ← isTrue c env (eval c env); pure (ForInStep.yield ok) else pure (ForInStep.yield r)) (fun ok s₃ =>
            if ok = true then wpAny (model prog w) A (eval elt env) (fun x s₄ =>
              wpAny (model prog w) A (call (.builtin "list.append") [acc, x]) (fun _ s₅ => ∃ m, m < n ∧ I m s₅) E' s₄) E' s₃
            else ∃ m, m < n ∧ I m s₃) E' s₂) E' s₁) E' s)
    (n : Nat) (h : I n s) (ht : ∀ v, letOwnedTupleGo t1 it v = pure () := by intro _; rfl) :
    codeAny (model prog w) A (.compLoop (.ListComp elt [⟨t0, it0, [], 0⟩, ⟨t1, it1, ifs, 0⟩] scope pos) 1 it acc env) R s := by
  refine codeAny_loop rfl I (fun n s hI => ?_) n h
  show wpAny _ A ((compTurn (.ListComp elt [⟨t0, it0, [], 0⟩, ⟨t1, it1, ifs, 0⟩] scope pos) 1 it acc env).onRaise (fun x => do noteFrame x env; theTreesLotGoes x)) _ _ s
  refine wpAny_noted ?_
  rw [compTurn_two1]
  refine wpAny_bind (wpAny_standAt (wpAny_bind (wpAny_mono (turn n s _ hI) (fun r s₁ h₁ => ?_) fun _ _ h' => h')))
  cases r with
  | none => exact wpAny_pure h₁
  | some v =>
    refine wpAny_bind (wpAny_of_eq (ht v) ?_)
    refine wpAny_bind (wpAny_mono h₁ (fun _ s₂ h₂ => wpAny_bind (wpAny_mono h₂ (fun ok s₃ h₃ => ?_) fun _ _ h' => h')) fun _ _ h' => h')
    cases ok with
    | false => exact wpAny_pure ⟨rfl, h₃⟩
    | true =>
      exact wpAny_bind (wpAny_bind (wpAny_mono h₃ (fun x s₄ h₄ => wpAny_bind (wpAny_mono h₄ (fun _ s₅ h₅ => wpAny_pure (wpAny_pure ⟨rfl, h₅⟩)) fun _ _ h' => h')) fun _ _ h' => h'))
theorem two1_start {elt t0 it0 t1 it1 : Expr} {ifs : List Expr} {scope : Scope} {pos : Pos} {it acc : Value} {env : Env}
    (h0 : codeAny (model prog w) A (.compLoop (.ListComp elt [⟨t0, it0, [], 0⟩, ⟨t1, it1, ifs, 0⟩] scope pos) 1 it acc env) R s)
    (h : ∀ E' : Value → Shared → Prop, wpAny (model prog w) A (pyIter it) (fun it' s' => codeAny (model prog w) A (.compLoop (.ListComp elt [⟨t0, it0, [], 0⟩, ⟨t1, it1, ifs, 0⟩] scope pos) 1 it' acc env) R s') E' s) :
    codeAny (model prog w) A (.compStart (.ListComp elt [⟨t0, it0, [], 0⟩, ⟨t1, it1, ifs, 0⟩] scope pos) 1 it acc env) R s := by
  refine codeAny_of_tree ?_
  show wpAny _ A ((compStart (.ListComp elt [⟨t0, it0, [], 0⟩, ⟨t1, it1, ifs, 0⟩] scope pos) 1 it acc env).onRaise (fun x => do noteFrame x env; standAt theWindowsPlace)) _ _ s
  refine wpAny_notedAt ?_
  unfold compStart
  show wpAny _ A (ask >>= _) _ _ s
  refine wpAny_bind (wpAny_askSetting (wpAny_ite ?_))
  split
  · first
      | exact wpAny_bind (wpAny_pure (wpAny_pure (And.intro rfl h0)))
      | exact wpAny_pure (And.intro rfl h0)
  · first
      | exact wpAny_bind (wpAny_rule (wpAny_bind (wpAny_standAt (wpAny_bind (wpAny_mono (h _) (fun it' s' h' => wpAny_pure (And.intro rfl h')) fun _ _ x => x)))))
      | (refine wpAny_bind (wpAny_rule ?_); show wpAny _ _ (standAt it1.pos >>= _) _ _ s; exact wpAny_bind (wpAny_standAt (wpAny_bind (wpAny_mono (h _) (fun it' s' h' => wpAny_pure (And.intro rfl h')) fun _ _ x => x))))
theorem two0_loop {elt t0 it0 t1 it1 : Expr} {ifs : List Expr} {scope : Scope} {pos : Pos} {it acc : Value} {env : Env} (I : Nat → Shared → Prop)
    (turn : ∀ n s (E' : Value → Shared → Prop), I n s → wpAny (model prog w) A (pyNext it) (fun r s₁ => match r with
      | none => R (.ok .next) s₁
      | some v => wpAny (model prog w) A (assign t0 env v) (fun _ s₂ =>
          wpAny (model prog w) A (eval it1 env) (fun x s₃ => wpAny (model prog w) A (pyIter x) (fun it' s₄ =>
            codeAny (model prog w) A (.compStart (.ListComp elt [⟨t0, it0, [], 0⟩, ⟨t1, it1, ifs, 0⟩] scope pos) 1 it' acc env) (fun r s₅ => (∃ f, r = .ok f) ∧ ∃ m, m < n ∧ I m s₅) s₄) E' s₃) E' s₂) E' s₁) E' s)
    (n : Nat) (h : I n s) (ht : ∀ v, letOwnedTupleGo t0 it v = pure () := by intro _; rfl) (hs : ∀ x, foldedSetIterable it1 env x = pure x := by intro _; rfl) :
    codeAny (model prog w) A (.compLoop (.ListComp elt [⟨t0, it0, [], 0⟩, ⟨t1, it1, ifs, 0⟩] scope pos) 0 it acc env) R s := by
  refine codeAny_loop rfl I (fun n s hI => ?_) n h
  show wpAny _ A ((compTurn (.ListComp elt [⟨t0, it0, [], 0⟩, ⟨t1, it1, ifs, 0⟩] scope pos) 0 it acc env).onRaise (fun x => do noteFrame x env; theTreesLotGoes x)) _ _ s
  refine wpAny_noted ?_
  rw [compTurn_two0]
  refine wpAny_bind (wpAny_standAt (wpAny_bind (wpAny_mono (turn n s _ hI) (fun r s₁ h₁ => ?_) fun _ _ h' => h')))
  cases r with
  | none => exact wpAny_pure h₁
  | some v =>
    refine wpAny_bind (wpAny_of_eq (ht v) ?_)
    refine wpAny_bind (wpAny_mono h₁ (fun _ s₂ h₂ => ?_) fun _ _ h' => h')
    refine wpAny_bind (wpAny_mono h₂ (fun x s₃ h₃ => ?_) fun _ _ h' => h')
    refine wpAny_bind (wpAny_standAt (wpAny_bind (wpAny_of_eq (hs x) (wpAny_bind (wpAny_holding (wpAny_mono h₃ (fun it' s₄ h₄ => ?_) fun _ _ h' => h'))))))
    refine wpAny_bind (wpAny_runOwn (h := none) ?_)
    rw [mark_none]
    refine codeAny_mono h₄ fun r s₅ hr => ?_
    obtain ⟨⟨f, rfl⟩, hm⟩ := hr
    exact wpAny_pure ⟨rfl, hm⟩
end
section
variable {prog : Program} {w : World} {A : Around} {E : Value → Shared → Prop} {env : Env}
/-- what a comprehension with two generators over lists looks at -/
structure TwoQuiet (prog : Program) (w : World) (A : Around) (env : Env) (scope : Scope) (cl : List (Str × Addr)) (x y : Str) (it1 : Expr) (ifs : List Expr) (elt : Expr) (us : List Value) (ws : Value → List Value) (p : Value → Value → Bool) (F : Value → Value → Prop) (s₁ : Shared) : Prop where
  inner : ∀ C u s₂ m₂ (E' : Value → Shared → Prop), s₁.heap.objs.size ≤ C → u ∈ us → s₂.heap.Ns C m₂ → m₂ x = some u → Kp s₁.heap s₂.heap →
    wpAny (model prog w) A (eval it1 (compEnvC scope cl C env)) (fun v s₃ => (∃ b, v = .ref b ∧ s₁.heap.IsList b (ws u).toArray) ∧ Keeps s₂ s₃) E' s₂
  tests : ∀ C u z s₂ m₂ (E' : Value → Shared → Prop), s₁.heap.objs.size ≤ C → u ∈ us → z ∈ ws u → s₂.heap.Ns C m₂ → m₂ x = some u → m₂ y = some z → Kp s₁.heap s₂.heap →
    wpAny (model prog w) A (forIn ifs true fun c r => if r = true then do let ok ← isTrue c (compEnvC scope cl C env) (eval c (compEnvC scope cl C env)); pure (ForInStep.yield ok) else pure (ForInStep.yield r))
      (fun ok s₃ => ok = p u z ∧ Keeps s₂ s₃) E' s₂
  elt : ∀ C u z s₂ m₂ (E' : Value → Shared → Prop), s₁.heap.objs.size ≤ C → u ∈ us → z ∈ ws u → p u z = true → s₂.heap.Ns C m₂ → m₂ x = some u → m₂ y = some z → Kp s₁.heap s₂.heap →
    wpAny (model prog w) A (eval elt (compEnvC scope cl C env)) (fun r s₃ => F z r ∧ Keeps s₂ s₃) E' s₂
theorem flat_le (us : List Value) (ws : Value → List Value) (p : Value → Value → Bool) : (us.flatMap fun u => (ws u).filter (p u)).length ≤ (us.flatMap ws).length := by
  induction us with
  | nil => exact Nat.le_refl _
  | cons u r ih =>
    rw [List.flatMap_cons, List.flatMap_cons, List.length_append, List.length_append]
    exact Nat.add_le_add (List.length_filter_le _ _) ih
theorem mid_get {α : Type} (d : List α) (u : α) (r : List α) : ((d ++ u :: r).toArray)[d.length]? = some u := by simp
theorem two_block {s₁ : Shared} {elt it0 it1 : Expr} {x y : Str} {px py : Pos} {ifs : List Expr} {scope : Scope} {cl : List (Str × Addr)} {pos : Pos} {ax : Addr} {us : List Value} {RR : Value → Addr → Result → Shared → Prop} (ws : Value → List Value) (p : Value → Value → Bool) (F : Value → Value → Prop)
    (hh : A.handled = none) (hcell : ∀ y ∈ scope.names, y.2 ≠ .cell) (hkind : scope.kind = .function)
    (hx : scope.names.lookup x = some .local) (hy : scope.names.lookup y = some .local) (hxy : x ≠ y)
    (hl : s₁.heap.IsList ax (List.toArray us)) (hsz : (us.flatMap ws).length ≤ sizeLine) (hq : TwoQuiet prog w A env scope cl x y it1 ifs elt us ws p F s₁)
    (hRR : ∀ D C h' tk m' ys, s₁.heap.get? D = none → s₁.heap.get? C = none → D ≠ C → h'.Ns C m' → h'.PlainList D ys → Paired F (us.flatMap fun u => (ws u).filter (p u)) ys.toList → Kp s₁.heap h' → RR (.ref D) C (.ok .next) { s₁ with heap := h', toks := tk })
    (hs1 : ∀ env x, foldedSetIterable it1 env x = pure x) :
    wpAny (model prog w) A (pyIter (.ref ax)) (fun it s₂ => wpAny (model prog w) A (newList []) (fun acc s₃ => wpAny (model prog w) A (newFunctionEnv scope env.globals cl [] env.qual none .none (some env)) (fun cenv s₄ =>
      codeAny (model prog w) A (.compStart (.ListComp elt [⟨.Name x px, it0, [], 0⟩, ⟨.Name y py, it1, ifs, 0⟩] scope pos) 0 it acc { cenv with scope := relabel scope env }) (RR acc cenv.locals) s₄) E s₃) E s₂) E s₁ := by
  refine wpAny_pyIter_list hl (wpAny_newObj_type (hd := by size_fits) (wpAny_newFunctionEnv hcell (by intro y hy; simp at hy) (fun h₁ hns₁ hsb₁ => ?_) hkind))
  dsimp only at hns₁ hsb₁ ⊢
  obtain ⟨ol, hol, hol'⟩ := id hl
  generalize hH1 : s₁.heap.push { cls := .type "list_iterator", data := .fields #[.ref ax, .int 0 0] } = H1 at hns₁ hsb₁ ⊢
  have hD : H1.objs.size = s₁.heap.objs.size + 1 := by rw [← hH1, Heap.size_push]
  generalize hH2 : H1.push { cls := .type "list", dict := none, data := .seq ([] : List Value).toArray } = H2 at hns₁ hsb₁ ⊢
  have hC : H2.objs.size = s₁.heap.objs.size + 2 := by rw [← hH2, Heap.size_push, hD]
  generalize hIe : s₁.heap.objs.size = I at *
  generalize hDe : H1.objs.size = D at *
  generalize hCe : H2.objs.size = C at *
  have hDI : D ≠ I := by rw [hD]; exact Nat.succ_ne_self _
  have hDC : D ≠ C := by rw [hD, hC]; exact Nat.ne_of_lt (Nat.lt_succ_self _)
  have hIC : I ≠ C := by rw [hC]; exact Nat.ne_of_lt (Nat.lt_succ_of_lt (Nat.lt_succ_self _))
  have hIleC : I ≤ C := by rw [hC]; exact Nat.le_add_right _ _
  have hIleC' : s₁.heap.objs.size ≤ C := hIe ▸ hIleC
  have below : ∀ {b : Addr} {o : Obj}, s₁.heap.get? b = some o → b ≠ C ∧ b ≠ I ∧ b ≠ D := fun e => by
    have hb := Heap.lt_size e
    rw [hIe] at hb
    exact ⟨Nat.ne_of_lt (Nat.lt_of_lt_of_le hb hIleC), Nat.ne_of_lt hb, by rw [hD]; exact Nat.ne_of_lt (Nat.lt_succ_of_lt hb)⟩
  have old : Kp s₁.heap h₁ := fun b o e => hsb₁.extBut b o (below e).1 (Heap.get?_push_of_some _ (hH2 ▸ Heap.get?_push_of_some _ (hH1 ▸ Heap.get?_push_of_some _ e)))
  have hit : h₁.IsListIter I ax 0 := ⟨_, hsb₁.extBut _ _ hIC (Heap.get?_push_of_some _ (hH2 ▸ Heap.get?_push_of_some _ (hH1 ▸ hIe ▸ Heap.get?_push_size _ rfl))), rfl, rfl⟩
  have hacc : h₁.PlainList D #[] := ⟨_, hsb₁.extBut _ _ hDC (Heap.get?_push_of_some _ (hH2 ▸ hDe ▸ Heap.get?_push_size _ rfl))⟩
  have hnew : s₁.heap.get? D = none := by
    cases e : s₁.heap.get? D with
    | none => rfl
    | some o' => exact absurd rfl (below e).2.2
  have hnewC : s₁.heap.get? C = none := by
    cases e : s₁.heap.get? C with
    | none => rfl
    | some o' => exact absurd rfl (below e).1
  refine codeAny_compStart_list ?_ (wpAny_pyIter_listiter hit ?_) <;>
  · show codeAny _ A (.compLoop _ 0 (.ref I) (.ref D) (compEnvC scope cl C env)) _ _
    refine two0_loop
      (fun k s' => ∃ h' tk m' ys dn rs, s' = { s₁ with heap := h', toks := tk } ∧ us = dn ++ rs ∧ k = rs.length ∧ h'.IsListIter I ax dn.length ∧ h'.PlainList D ys ∧ h'.Ns C m' ∧
        Paired F (dn.flatMap fun u => (ws u).filter (p u)) ys.toList ∧ Kp s₁.heap h') ?_ us.length
      ⟨h₁, _, _, #[], [], us, rfl, rfl, rfl, hit, hacc, hns₁, Paired.nil, old⟩ (fun _ => rfl) (hs1 _)
    rintro k s' E' ⟨H, tk, m', ys, dn, rs, rfl, hus, rfl, hit', hacc', hn', hF, hk⟩
    have hl' : H.IsList ax (List.toArray us) := hl.at fun o e => hk _ _ e
    cases rs with
    | nil =>
      rw [List.append_nil] at hus
      subst hus
      refine wpAny_pyNext_list_end hh hit' hl' (by simp) fun h₂ he₂ => ?_
      exact hRR D C h₂ tk m' ys hnew hnewC hDC (hn'.extBut he₂ (Ne.symm hIC)) (hacc'.at fun o e => he₂ _ _ hDI e) hF fun b o e => he₂ b o (below e).2.1 (hk b o e)
    | cons u rs =>
      have hu : u ∈ us := by rw [hus]; exact List.mem_append_right _ (.head _)
      have hv : (List.toArray us)[dn.length]? = some u := by rw [hus]; exact mid_get _ _ _
      refine wpAny_pyNext_list_item hit' hl' hv fun h₂ hit₂ hs₂ => ?_
      refine wpAny_assign_Name (wpAny_storeName_local (lookup_relabel_local hx) (hn'.sameBut hs₂ (Ne.symm hIC)) (fun h₃ hn₃ hs₃ => ?_) (by simp [compEnvC, relabel, hkind]))
      have kp₃ : Kp s₁.heap h₃ := fun b o e => hs₃.extBut b o (below e).1 (hs₂.extBut b o (below e).2.1 (hk b o e))
      refine wpAny_mono (hq.inner C u _ _ E' hIleC' hu hn₃ (by simp) kp₃) (fun xv s₄ h₄ => ?_) fun _ _ e => e
      obtain ⟨⟨b, rfl, hb⟩, h₄, tk₄, rfl, hk₄⟩ := h₄
      have kp₄ : Kp s₁.heap h₄ := fun b o e => hk₄ b o (kp₃ b o e)
      have hb₄ : h₄.IsList b (ws u).toArray := hb.at fun o e => kp₄ _ _ e
      have hbI : b ≠ C ∧ b ≠ I ∧ b ≠ D := by obtain ⟨ob, e, _⟩ := hb; exact below e
      refine wpAny_pyIter_list hb₄ ?_
      have hit₄ : h₄.IsListIter I ax (dn.length + 1) := (hit₂.extBut hs₃.extBut hIC).at fun o e => hk₄ _ o e
      have hacc₄ : h₄.PlainList D ys := hacc'.at fun o e => hk₄ _ _ (hs₃.extBut _ _ hDC (hs₂.extBut _ _ hDI e))
      have hn₄ := hn₃.keeps hk₄
      have hD4 : D < h₄.objs.size := by obtain ⟨n, e⟩ := hacc₄; exact Heap.lt_size e
      have hI4 : I < h₄.objs.size := by obtain ⟨o, e, _⟩ := hit₄; exact Heap.lt_size e
      have hC4 : C < h₄.objs.size := by obtain ⟨o, _, _, e, _⟩ := hn₄; exact Heap.lt_size e
      have hb4 : b < h₄.objs.size := by obtain ⟨o, e, _⟩ := hb₄; exact Heap.lt_size e
      have up₅ : Kp h₄ (h₄.push { cls := .type "list_iterator", data := .fields #[.ref b, .int 0 0] }) := fun b o e => Heap.get?_push_of_some _ e
      have hit5 : (h₄.push { cls := .type "list_iterator", data := .fields #[.ref b, .int 0 0] }).IsListIter h₄.objs.size b 0 := ⟨_, Heap.get?_push_size _ rfl, rfl, rfl⟩
      generalize h₄.push { cls := .type "list_iterator", data := .fields #[.ref b, .int 0 0] } = h₅ at up₅ hit5
      generalize h₄.objs.size = I2 at *
      have hI2D : I2 ≠ D := Nat.ne_of_gt hD4
      have hI2I : I2 ≠ I := Nat.ne_of_gt hI4
      have hI2C : I2 ≠ C := Nat.ne_of_gt hC4
      have hI2b : I2 ≠ b := Nat.ne_of_gt hb4
      have inner : ∀ s₅ : Shared, s₅ = { s₁ with heap := h₅, toks := tk₄ } → codeAny (model prog w) A (.compLoop (.ListComp elt [⟨.Name x px, it0, [], 0⟩, ⟨.Name y py, it1, ifs, 0⟩] scope pos) 1 (.ref I2) (.ref D) (compEnvC scope cl C env))
          (fun r s₆ => (∃ f, r = .ok f) ∧ ∃ m, m < (u :: rs).length ∧ ∃ h' tk m' ys dn rs, s₆ = { s₁ with heap := h', toks := tk } ∧ us = dn ++ rs ∧ m = rs.length ∧ h'.IsListIter I ax dn.length ∧ h'.PlainList D ys ∧ h'.Ns C m' ∧
            Paired F (dn.flatMap fun u => (ws u).filter (p u)) ys.toList ∧ Kp s₁.heap h') s₅ := by
        rintro s₅ rfl
        refine two1_loop
          (fun k s' => ∃ h' tk m' ys d1 r1, s' = { s₁ with heap := h', toks := tk } ∧ ws u = d1 ++ r1 ∧ k = r1.length ∧ h'.IsListIter I ax (dn.length + 1) ∧ h'.IsListIter I2 b d1.length ∧ h'.PlainList D ys ∧ h'.Ns C m' ∧ m' x = some u ∧
            Paired F ((dn.flatMap fun u => (ws u).filter (p u)) ++ d1.filter (p u)) ys.toList ∧ Kp s₁.heap h') ?_ (ws u).length
          ⟨h₅, _, _, ys, [], ws u, rfl, rfl, rfl, hit₄.at fun o e => up₅ _ _ e, hit5, hacc₄.at fun o e => up₅ _ _ e, hn₄.keeps up₅, by simp, by simpa using hF, fun b o e => up₅ b o (kp₄ b o e)⟩ (fun _ => rfl)
        rintro k1 s6 E6 ⟨H6, tk6, m6, ys6, d1, r1, rfl, hw, rfl, hitA, hitB, hacc6, hn6, hm6, hF6, hk6⟩
        have hb6 : H6.IsList b (ws u).toArray := hb.at fun o e => hk6 _ _ e
        cases r1 with
        | nil =>
          rw [List.append_nil] at hw
          refine wpAny_pyNext_list_end hh hitB hb6 (by rw [hw]; simp) fun h₇ he₇ => ?_
          refine ⟨⟨_, rfl⟩, rs.length, Nat.lt_succ_self _, h₇, tk6, m6, ys6, dn ++ [u], rs, rfl, by rw [hus, List.append_assoc]; rfl, rfl, ?_, hacc6.at fun o e => he₇ _ _ (Ne.symm hI2D) e, hn6.extBut he₇ (Ne.symm hI2C), ?_, fun b o e => he₇ b o (fun q => ?_) (hk6 b o e)⟩
          · rw [List.length_append]; exact hitA.at fun o e => he₇ _ _ (Ne.symm hI2I) e
          · rw [List.flatMap_append]; simpa [hw] using hF6
          · subst q; exact absurd (Heap.lt_size e) (Nat.not_lt.mpr (by rw [hIe]; exact Nat.le_of_lt hI4))
        | cons z r1 =>
          have hz : z ∈ ws u := by rw [hw]; exact List.mem_append_right _ (.head _)
          have hvz : (ws u).toArray[d1.length]? = some z := by rw [hw]; exact mid_get _ _ _
          refine wpAny_pyNext_list_item hitB hb6 hvz fun h₇ hit₇ hs₇ => ?_
          refine wpAny_assign_Name (wpAny_storeName_local (lookup_relabel_local hy) (hn6.sameBut hs₇ (Ne.symm hI2C)) (fun h₈ hn₈ hs₈ => ?_) (by simp [compEnvC, relabel, hkind]))
          have nI2 : ∀ {b o}, s₁.heap.get? b = some o → b ≠ I2 := fun e q => by subst q; exact absurd (Heap.lt_size e) (Nat.not_lt.mpr (by rw [hIe]; exact Nat.le_of_lt hI4))
          have kp₈ : Kp s₁.heap h₈ := fun b o e => hs₈.extBut b o (below e).1 (hs₇.extBut b o (nI2 e) (hk6 b o e))
          have hm8 : (fun y_1 => if y_1 = y then some z else m6 y_1) x = some u := by simp [hxy, hm6]
          refine wpAny_mono (hq.tests C u z _ _ E6 hIleC' hu hz hn₈ hm8 (by simp) kp₈) (fun ok s₉ h₉ => ?_) fun _ _ e => e
          obtain ⟨rfl, h₉, tk₉, rfl, hk₉⟩ := h₉
          have kp₉ : Kp s₁.heap h₉ := fun b o e => hk₉ b o (kp₈ b o e)
          have hitA9 : h₉.IsListIter I ax (dn.length + 1) := hitA.at fun o e => hk₉ _ _ (hs₈.extBut _ _ hIC (hs₇.extBut _ _ (Ne.symm hI2I) e))
          have hitB9 : h₉.IsListIter I2 b (d1.length + 1) := hit₇.at fun o e => hk₉ _ _ (hs₈.extBut _ _ hI2C e)
          have hacc9 : h₉.PlainList D ys6 := hacc6.at fun o e => hk₉ _ _ (hs₈.extBut _ _ hDC (hs₇.extBut _ _ (Ne.symm hI2D) e))
          have hn9 := hn₈.keeps hk₉
          cases hp : p u z with
          | false =>
            simp only [Bool.false_eq_true, if_false]
            refine ⟨r1.length, Nat.lt_succ_self _, h₉, tk₉, _, ys6, d1 ++ [z], r1, rfl, by rw [hw, List.append_assoc]; rfl, rfl, hitA9, by rw [List.length_append]; exact hitB9, hacc9, hn9, hm8, ?_, kp₉⟩
            rw [List.filter_append]; simpa [hp] using hF6
          | true =>
            simp only [if_true]
            refine wpAny_mono (hq.elt C u z _ _ E6 hIleC' hu hz hp hn9 hm8 (by simp) kp₉) (fun r sa ha => ?_) fun _ _ e => e
            obtain ⟨hFr, ha, tka, rfl, hka⟩ := ha
            have hys : ys6.size ≤ sizeLine := by
              have e1 := hF6.length
              have e2 := flat_le dn ws p
              have e3 := List.length_filter_le (p u) d1
              have e4 : ys6.toList.length = ys6.size := by simp
              have e5 := hsz
              rw [hus, List.flatMap_append, List.flatMap_cons, hw] at e5
              simp only [List.length_append] at e1 e5
              omega
            refine wpAny_list_append_plain (hsz := hys) (hacc9.at fun o e => hka _ _ e) fun hb' hlb hsb => ?_
            refine ⟨r1.length, Nat.lt_succ_self _, hb', tka, _, ys6.push r, d1 ++ [z], r1, rfl, by rw [hw, List.append_assoc]; rfl, rfl, hitA9.at fun o e => hsb.extBut _ _ (Ne.symm hDI) (hka _ _ e), by rw [List.length_append]; exact hitB9.at fun o e => hsb.extBut _ _ hI2D (hka _ _ e), hlb, (hn9.keeps hka).sameBut hsb (Ne.symm hDC), hm8, ?_,
              fun b o e => hsb.extBut b o (below e).2.2 (hka b o (kp₉ b o e))⟩
            have := Paired.snoc hF6 hFr
            rw [List.append_assoc] at this
            rw [List.filter_append]; simpa [hp] using this
      exact two1_start (inner _ rfl) fun E'' => wpAny_pyIter_listiter hit5 (inner _ rfl)
theorem ListComp_two {s : Shared} {elt it0 it1 : Expr} {x y : Str} {px py : Pos} {ifs : List Expr} {scope : Scope} {cl : List (Str × Addr)} {pos : Pos} {Q : Value → Shared → Prop} (ws : Value → List Value) (p : Value → Value → Bool) (F : Value → Value → Prop)
    (hh : A.handled = none) (hclos : closureFor scope env = pure cl) (hcell : ∀ y ∈ scope.names, y.2 ≠ .cell) (hkind : scope.kind = .function)
    (hnames : ∀ y ∈ scope.names, y.2 = .local → scope.names.lookup y.1 = some .local) (hx : scope.names.lookup x = some .local) (hy : scope.names.lookup y = some .local) (hxy : x ≠ y)
    (h : wpAny (model prog w) A (eval it0 env) (fun xv s₁ => ∃ ax us, xv = .ref ax ∧ s₁.heap.IsList ax (List.toArray us) ∧ (us.flatMap ws).length ≤ sizeLine ∧ TwoQuiet prog w A env scope cl x y it1 ifs elt us ws p F s₁ ∧
      (∀ D h' tk ys, s₁.heap.get? D = none → h'.PlainList D ys → Paired F (us.flatMap fun u => (ws u).filter (p u)) ys.toList → Kp s₁.heap h' → Q (.ref D) { s₁ with heap := h', toks := tk })) E s)
    (hs : ∀ x, foldedSetIterable it0 env x = pure x := by intro _; rfl) (hs1 : ∀ env x, foldedSetIterable it1 env x = pure x := by intro _ _; rfl) :
    wpAny (model prog w) A (eval (.ListComp elt [⟨.Name x px, it0, [], 0⟩, ⟨.Name y py, it1, ifs, 0⟩] scope pos) env) Q E s := by
  rw [eval_ListComp]
  refine wpAny_comprehension_free (use := none) rfl hs hclos hkind hnames (wpAny_mono h (fun xv s₁ h₁ => ?_) fun _ _ e => e)
  obtain ⟨ax, us, rfl, hl, hsz, hq, hQ⟩ := h₁
  refine two_block ws p F hh hcell hkind hx hy hxy hl hsz hq (fun D C h' tk m' ys hD hC hDC hn hp hF hk => ?_) hs1
  exact ⟨m', hn, fun h₃ hs₃ => hQ D h₃ tk ys hD (hp.at fun o e => hs₃.extBut _ _ hDC e) hF fun b o e => hs₃.extBut b o (by rintro rfl; rw [hC] at e; cases e) (hk b o e)⟩
theorem Assign_two {s : Shared} {elt it0 it1 : Expr} {x y z : Str} {px py pz : Pos} {ifs : List Expr} {scope : Scope} {cl : List (Str × Addr)} {pos spos : Pos} {Q : Flow → Shared → Prop} (ws : Value → List Value) (p : Value → Value → Bool) (F : Value → Value → Prop)
    (hsw : swapsWith (.ListComp elt [⟨.Name x px, it0, [], 0⟩, ⟨.Name y py, it1, ifs, 0⟩] scope pos) (some (.Name z pz)) spos.line env = pure true)
    (hh : A.handled = none) (hclos : closureFor scope env = pure cl) (hcell : ∀ y ∈ scope.names, y.2 ≠ .cell) (hkind : scope.kind = .function)
    (hnames : ∀ y ∈ scope.names, y.2 = .local → scope.names.lookup y.1 = some .local) (hx : scope.names.lookup x = some .local) (hy : scope.names.lookup y = some .local) (hxy : x ≠ y)
    (hz : env.kindOf z = some .local) (hp : (env.scope.kind == .class || (env.scope.kind == .module && env.locals != env.globals)) = false)
    (h : wpAny (model prog w) A (eval it0 env) (fun xv s₁ => ∃ ax us m, xv = .ref ax ∧ s₁.heap.Ns env.locals m ∧ s₁.heap.IsList ax (List.toArray us) ∧ (us.flatMap ws).length ≤ sizeLine ∧ TwoQuiet prog w A env scope cl x y it1 ifs elt us ws p F s₁ ∧
      (∀ D h' tk ys, s₁.heap.get? D = none → h'.PlainList D ys → Paired F (us.flatMap fun u => (ws u).filter (p u)) ys.toList → h'.Ns env.locals (fun y => if y = z then some (.ref D) else m y) → (∀ b o, b ≠ env.locals → s₁.heap.get? b = some o → h'.get? b = some o) → Q .next { s₁ with heap := h', toks := tk })) E s)
    (hs : ∀ x, foldedSetIterable it0 env x = pure x := by intro _; rfl) (hs1 : ∀ env x, foldedSetIterable it1 env x = pure x := by intro _ _; rfl) :
    wpAny (model prog w) A (exec (.Assign [.Name z pz] (.ListComp elt [⟨.Name x px, it0, [], 0⟩, ⟨.Name y py, it1, ifs, 0⟩] scope pos) spos) env) Q E s := by
  rw [exec_Assign_Name_used _ _ _ _ hsw]
  refine wpAny_bind (wpAny_standAt (wpAny_bind ?_))
  show wpAny _ A (do let _ ← comprehension (.ListComp elt [⟨.Name x px, it0, [], 0⟩, ⟨.Name y py, it1, ifs, 0⟩] scope pos) scope env _ (newList []) false (eval it0 env) (some (assign (.Name z pz) env))) _ _ s
  refine wpAny_bind (wpAny_mono (wpAny_comprehension_free (use := some (assign (.Name z pz) env)) (Q := fun _ s' => Q .next s') rfl hs hclos hkind hnames
    (wpAny_mono h (fun xv s₁ h₁ => ?_) fun _ _ e => e)) (fun _ s' hq => wpAny_pure (wpAny_pure hq)) fun _ _ e => e)
  obtain ⟨ax, us, m, rfl, hns, hl, hsz, hq, hQ⟩ := h₁
  refine two_block ws p F hh hcell hkind hx hy hxy hl hsz hq (fun D C h' tk m' ys hD hC hDC hn hpl hF hk => ?_) hs1
  obtain ⟨oL, _, _, hoL, _⟩ := id hns
  have hLC : env.locals ≠ C := by rintro e; rw [e, hC] at hoL; cases hoL
  have hLD : env.locals ≠ D := by rintro e; rw [e, hD] at hoL; cases hoL
  show wpAny _ A (assign (.Name z pz) env (.ref D)) _ _ _
  refine wpAny_assign_Name (wpAny_storeName_local hz (hns.keeps hk) (fun h₂ hn₂ hs₂ => ?_) hp)
  refine ⟨m', hn.sameBut hs₂ (Ne.symm hLC), fun h₃ hs₃ => hQ D h₃ _ ys hD (hpl.at fun o e => hs₃.extBut _ _ hDC (hs₂.extBut _ _ (Ne.symm hLD) e)) hF (hn₂.sameBut hs₃ hLC) fun b o hb e => hs₃.extBut b o (by rintro rfl; rw [hC] at e; cases e) (hs₂.extBut b o hb (hk b o e))⟩
end
theorem fr_has1 {h₀ h : Heap} {L : Addr} {m : Str → Option Value} {x : Str} {v : Value} {l : List (Str × Value)} (F : Fr h₀ L h (fun y => if y = x then some v else m y)) (e : Has m l) : Fr h₀ L h (fun y => if y = x then some v else setL m l y) := by rw [setL_eq e]; exact F
noncomputable def nmOf (rs : List Row) (t : Nat) : Str := ((rs[t]?).map Row.name).getD (Str.ofString "")
noncomputable def vlOf (rs : List Row) (t : Nat) : Str := ((rs[t]?).map Row.value).getD (Str.ofString "")
noncomputable def kdOf (rs : List Row) (t : Nat) : Str := ((rs[t]?).map Row.kind).getD (Str.ofString "")
noncomputable def nsOf (rs : List Row) (t : Nat) : List Nat := if kdOf rs t = Str.ofString "element" then ((rs[t]?).map Row.nss).getD [] else []
/-- the nodes of one lot, and the prefixes met after it -/
noncomputable def lotOf (rs : List Row) : List Nat → List Str → List Nat × List Str
  | [], met => ([], met)
  | t :: r, met => if nmOf rs t ∈ met then lotOf rs r met else
      (if vlOf rs t ≠ Str.ofString "" then t :: (lotOf rs r (nmOf rs t :: met)).1 else (lotOf rs r (nmOf rs t :: met)).1, (lotOf rs r (nmOf rs t :: met)).2)
noncomputable def lotsOf (rs : List Row) : List Nat → List Str → List (List Nat)
  | [], _ => []
  | e :: r, met => (lotOf rs (nsOf rs e) met).1 :: lotsOf rs r (lotOf rs (nsOf rs e) met).2
/-- what namespaces_in_scope gives of an element with this line of ancestors -/
noncomputable def nisOf (rs : List Row) (line : List Nat) : List Nat := (lotsOf rs line []).reverse.flatten
theorem drop_get {α : Type} {l : List α} {k : Nat} {a : α} (h : l[k]? = some a) : l.drop k = a :: l.drop (k + 1) := by
  obtain ⟨h1, rfl⟩ := List.getElem?_eq_some_iff.mp h
  exact List.drop_eq_getElem_cons h1
theorem ints_getN : ∀ {vs : List Value} {ns : List Nat} {k : Nat} {v : Value}, IntsAre vs (ns.map Int.ofNat) → vs[k]? = some v → ∃ j t, ns[k]? = some j ∧ v = .int (j : Int) t
  | _, [], k, v, h, e => by cases h; simp at e
  | [], j :: r, _, v, h, e => by cases h
  | u :: us, j :: r, 0, v, h, e => by
    cases h with
    | cons _ t h' => exact ⟨j, t, rfl, (Option.some.inj e).symm⟩
  | u :: us, j :: r, k + 1, v, h, e => by
    have h' : IntsAre us (r.map Int.ofNat) := by cases h with | cons _ t h' => exact h'
    obtain ⟨a, b, x, y⟩ := ints_getN h' (show us[k]? = some v by simpa using e)
    exact ⟨a, b, by simpa using x, y⟩
/-- lists of node numbers in a ledger -/
inductive LotsIn (tl : List (Addr × Obj)) : List Value → List (List Nat) → Prop
  | nil : LotsIn tl [] []
  | snoc {lv : List Value} {qs : List (List Nat)} {a : Addr} {vs : List Value} {n : Nat} {q : List Nat} : LotsIn tl lv qs → (a, listOf vs.toArray n) ∈ tl → IntsAre vs (q.map Int.ofNat) → LotsIn tl (lv ++ [.ref a]) (qs ++ [q])
theorem LotsIn.mono {tl tl' : List (Addr × Obj)} (hs : ∀ p ∈ tl, p ∈ tl') {lv : List Value} {qs : List (List Nat)} (h : LotsIn tl lv qs) : LotsIn tl' lv qs := by
  induction h with
  | nil => exact .nil
  | snoc _ b c ih => exact .snoc ih (hs _ b) c
/-- the prefixes met, as a table -/
structure MetAt (w : World) (o : Obj) (met : List Str) (b : Nat) : Prop where
  ex : ∃ kvs D, o.IsDictOf (PySem.strKind prg w) kvs ∧ PyProof.V.FlatPairs PyData.str kvs D ∧ (∀ x, (PySem.Spec.lookup (.str x) D).isSome = decide (x ∈ met)) ∧ D.length ≤ b
/-- what stands between the turns of the outer loop -/
inductive NisO (rs : List Row) (w : World) (T Dl Dm sa : Addr) (so : Obj) (i : Nat) (ti : Tok) (line : List Nat) : Nat → (Str → Option Value) → List (Addr × Obj) → Prop
  | mk {k : Nat} {m : Str → Option Value} {om : Obj} {tl : List (Addr × Obj)} {lv : List Value} {c : Nat} {met : List Str} {qs : List (List Nat)} :
    Has m [(Str.ofString "tree", .ref T), (Str.ofString "node", .int (i : Int) ti), (Str.ofString "lots", .ref Dl), (Str.ofString "met", .ref Dm)] → MetAt w om met (1000 * k) → lv.length = k → LotsIn tl lv qs →
    qs ++ lotsOf rs (line.drop k) met = lotsOf rs line [] → (sa, so) ∈ tl → (∀ p ∈ tl, p.1 ≠ Dm) → (∀ p ∈ tl, p.1 ≠ Dl) → NisO rs w T Dl Dm sa so i ti line k m ((Dm, om) :: (Dl, listOf lv.toArray c) :: tl)
theorem allLt_mem {d : Addr} {l : List (Addr × Obj)} (h : AllLt d l) : ∀ p ∈ l, @LT.lt Nat _ p.1 d := by
  induction l with
  | nil => intro p hp; cases hp
  | cons a r ih =>
    intro p hp
    rcases List.mem_cons.mp hp with rfl | hp
    · exact h.1
    · exact ih h.2 p hp
theorem MetAt.weak {w : World} {o : Obj} {met : List Str} {b b' : Nat} (h : MetAt w o met b) (hb : b ≤ b') : MetAt w o met b' :=
  let ⟨kvs, D, a, c, d, e⟩ := h.ex; ⟨kvs, D, a, c, d, Nat.le_trans e hb⟩
/-- the items of the list a value stands for -/
noncomputable def itemsAt (h : Heap) : Value → List Value
  | .ref a => match h.get? a with | some o => (match o.data with | .seq its _ => its.toList | _ => []) | none => []
  | _ => []
theorem LotsIn.all {h : Heap} {tl : List (Addr × Obj)} (N : ∀ p ∈ tl, h.get? p.1 = some p.2) {lv : List Value} {qs : List (List Nat)} (hL : LotsIn tl lv qs) :
    IntsAre (lv.reverse.flatMap (itemsAt h)) (qs.reverse.flatten.map Int.ofNat) ∧ ∀ u ∈ lv, ∃ a vs n, u = .ref a ∧ (a, listOf vs.toArray n) ∈ tl ∧ itemsAt h u = vs := by
  induction hL with
  | nil => exact ⟨.nil, fun u hu => nomatch hu⟩
  | @snoc lv qs a vs n q hp hm hi ih =>
    have e : itemsAt h (.ref a) = vs := by simp [itemsAt, N _ hm, W.listOf]
    refine ⟨?_, fun u hu => ?_⟩
    · rw [List.reverse_append, List.reverse_append]
      simp only [List.reverse_cons, List.reverse_nil, List.nil_append, List.cons_append, List.flatMap_cons, List.flatten_cons, List.map_append, e]
      exact ints_app hi ih.1
    · rcases List.mem_append.mp hu with hu | hu
      · exact ih.2 u hu
      · rw [List.mem_singleton.mp hu]; exact ⟨a, vs, n, rfl, hm, e⟩
theorem lotOf_len (rs : List Row) : ∀ (l : List Nat) (met : List Str), (lotOf rs l met).1.length ≤ l.length
  | [], _ => Nat.le_refl _
  | t :: r, met => by
    unfold lotOf
    split
    · exact Nat.le_succ_of_le (lotOf_len rs r met)
    · have h := lotOf_len rs r (nmOf rs t :: met)
      split
      · exact Nat.succ_le_succ h
      · exact Nat.le_succ_of_le h
theorem lotsOf_len {rs : List Row} : ∀ {l : List Nat} {met : List Str}, (∀ e ∈ l, (nsOf rs e).length ≤ 1000) → (lotsOf rs l met).flatten.length ≤ 1000 * l.length
  | [], _, _ => Nat.le_refl _
  | e :: r, met, h => by
    have h1 := lotOf_len rs (nsOf rs e) met
    have h2 := h e (.head _)
    have h3 := lotsOf_len (l := r) (met := (lotOf rs (nsOf rs e) met).2) fun e he => h e (.tail _ he)
    show ((lotOf rs (nsOf rs e) met).1 ++ (lotsOf rs r (lotOf rs (nsOf rs e) met).2).flatten).length ≤ 1000 * (r.length + 1)
    rw [List.length_append]; omega
theorem flat_rev_len (qs : List (List Nat)) : qs.reverse.flatten.length = qs.flatten.length := by
  rw [List.length_flatten, List.length_flatten, List.map_reverse, List.sum_reverse]
inductive NisR (hp0 : Heap) (L : Addr) (gn : Array GenState) (dr : Drawn) (os : OsState) (lv : List Value) (tl : List (Addr × Obj)) : Value → Shared → Prop
  | mk {m1 : Str → Option Value} {D : Addr} {n : Nat} {h' : Heap} {tk' : Nat} : Fr hp0 L h' m1 → News hp0 L h' ((D, listOf lv.reverse.toArray n) :: tl) → NisR hp0 L gn dr os lv tl (.ref D) { heap := h', gens := gn, drawn := dr, toks := tk', os := os }
/-- what stands between the turns of the inner loop -/
inductive NisI (rs : List Row) (w : World) (T Dl Dm Dq : Addr) (FX : List (Addr × Obj)) (i : Nat) (ti : Tok) (j : Nat) (tj : Tok) (nn : List Nat) (met0 : List Str) (b : Nat) : Nat → (Str → Option Value) → List (Addr × Obj) → Prop
  | mk {k : Nat} {m : Str → Option Value} {om : Obj} {vq : List Value} {c : Nat} {met : List Str} {q : List Nat} :
    Has m [(Str.ofString "tree", .ref T), (Str.ofString "node", .int (i : Int) ti), (Str.ofString "lots", .ref Dl), (Str.ofString "met", .ref Dm), (Str.ofString "here", .int (j : Int) tj), (Str.ofString "lot", .ref Dq)] → MetAt w om met (b + k) →
    IntsAre vq (q.map Int.ofNat) → vq.length ≤ k → q ++ (lotOf rs (nn.drop k) met).1 = (lotOf rs nn met0).1 → (lotOf rs (nn.drop k) met).2 = (lotOf rs nn met0).2 → NisI rs w T Dl Dm Dq FX i ti j tj nn met0 b k m ((Dq, listOf vq.toArray c) :: (Dm, om) :: FX)
inductive NisL (hp0 : Heap) (L : Addr) (gn : Array GenState) (dr : Drawn) (os : OsState) (T Dl Dm Dq I : Addr) (i : Nat) (ti : Tok) (j : Nat) (tj : Tok) (nn : List Nat) (tlx : List (Addr × Obj)) : Value → Shared → Prop
  | mk {m1 : Str → Option Value} {La : Addr} {vq : List Value} {nq : Nat} {h' : Heap} {tk' : Nat} : Has m1 [(Str.ofString "tree", .ref T), (Str.ofString "node", .int (i : Int) ti), (Str.ofString "lots", .ref Dl), (Str.ofString "met", .ref Dm), (Str.ofString "here", .int (j : Int) tj), (Str.ofString "lot", .ref Dq)] →
    Fr hp0 L h' m1 → News hp0 L h' ((La, listOf vq.toArray nq) :: tlx) → IntsAre vq (nn.map Int.ofNat) → (@Ne Nat Dq La ∧ @Ne Nat Dm La ∧ @Ne Nat I La ∧ @Ne Nat Dl La) → NisL hp0 L gn dr os T Dl Dm Dq I i ti j tj nn tlx (.ref La) { heap := h', gens := gn, drawn := dr, toks := tk', os := os }
theorem isSome_put (k n : Str) (dv : PyData) (D : List (PyData × PyData)) : (PySem.Spec.lookup (.str k) (PyProof.V.putD (.str n) dv D)).isSome = (decide (k = n) || (PySem.Spec.lookup (.str k) D).isSome) := PyProof.Rows.isSome_lookup_putD_str k n dv D
theorem rows_i : True := by
  (k_with "memA" => first | assumption | (refine List.Mem.tail _ ?_; walk_at "memA"))
  (k_with "subT" => first | exact List.forall_mem_nil _ | (refine List.forall_mem_cons.mpr ⟨?_, ?_⟩; (focus k_mem); (walk_at "subT")) | (intro p hp; walk_at "memA"))
  trivial
local macro_rules | `(tactic| walk_at "inS") => `(tactic| (intro h' o' F' N' hd' hf'; (try dsimp only at N'); (try k_sweep)))
local macro_rules | `(tactic| k_all) => `(tactic| assumption)
theorem rows_j : True := by
  (k_with "setItem ref str" => (k_here; k_dflt (refine' setItem_K PyProof.V.same_str (strKind_is _ _ _ _) ?qv ?qF ?qN ?qU ?qd ?qf ?_ ?qz; (case qF => k_asm); (case qN => k_asm); (case qU => k_updF); (case qd => k_asm); (case qf => k_asm); (case qz => (rw [PySem.sizeLine_eq]; omega)); (case qv => k_flat)); walk_at "inS"))
  (k_with "eval ListComp" => refine stop_of ?_)
  (k_with "subscriptTail Name Slice ref ref" => (k_here; (with_reducible show wpAny _ _ (subscriptTail _ (PySem.Expr.Slice none none (some _) _) (Value.ref _) (Value.ref _)) _ _ _); k_dflt (refine' krv_lit ?qF ?qN ?ql ?qk ?qe ?_ ?qs ?qt ?qz; (case qF => k_asm); (case qN => k_asm); (case ql => kmk_list); (case qk => exact IsPart.int _ _); (case qe => exact rfl); (case qs => with_unfolding_all rfl); (case qt => kmk_pure); (case qz => first | exact size_of (by omega) | kmk_size)); intro _ _ _ _; walk_at "inL"))
  trivial
section
variable {w : World} {p : Program} {loose : List Str} {mean : ExcName → Option Value} {mg mb : Str → Option Value} {A : Around} {s : Shared}
theorem nis_other_c (B : Bs w p loose mean mg mb s.heap) (hd : Rm A 5) {T dT R : Addr} {rs : List Row} (hT : TreeAt w.params s.heap T dT R rs) {i : Nat} {ti : Tok} {r : Row} (hr : rs[i]? = some r) (hk : (r.kind == Str.ofString "element") = false) :
    RO w A s (call (.ref 33) [.ref T, .int (i : Int) ti]) fun v h' => NewIds s.heap h' v [] := by
  refine fill0 ?_; k_fill; intro _
  obtain ⟨hp0, gn, dr, tk0, os⟩ := s
  dsimp only at B hT
  intro Q E ret
  dsimp only at ret
  obtain ⟨hA, dp, frs, gds, un⟩ := A; obtain rfl : hA = none := hd.handled
  refine enter B (st := stmtAt 3) (f := 33) (binds := [(Str.ofString "tree", .ref T), (Str.ofString "node", .int (i : Int) ti)]) (by k_is) rfl (by k_is) hd.room (by rfl) (by rfl) ?_
  obtain ⟨t, n, hdT⟩ := hT.dict
  have hTi := hT.inst
  have X := B.X
  have T' := B.T
  intro h₁ tk F
  dsimp only at F ⊢
  have N : News hp0 hp0.objs.size h₁ [] := News.nil
  have hk' : (r.kind != Str.ofString "element") = true := by rw [bne, hk]; rfl
  k_steps
  (rename Fr _ _ _ _ => F1); (rename News _ _ _ _ => N1)
  exact ret _ _ _ F1.keep ⟨_, rfl, ⟨[], ⟨_, (N1 _ (.head _)).1⟩, .nil⟩, (N1 _ (.head _)).2.2⟩
theorem nis_c (B : Bs w p loose mean mg mb s.heap) (hd : Rm A 5) {T dT R : Addr} {rs : List Row} (hT : TreeAt w.params s.heap T dT R rs) {i : Nat} {ti : Tok} {l : List Nat} (hU : Up rs i l) (hl : l.length < 100) {r : Row} (hr : rs[i]? = some r) (hk : (r.kind == Str.ofString "element") = true) (hline : ∀ e ∈ i :: l, ∃ r, rs[e]? = some r ∧ ∀ j ∈ r.nss, ∃ q, rs[j]? = some q) :
    RO w A s (call (.ref 33) [.ref T, .int (i : Int) ti]) fun v h' => NewIds s.heap h' v (nisOf rs (i :: l)) := by
  refine fill0 ?_; k_fill; intro _
  obtain ⟨hp0, gn, dr, tk0, os⟩ := s
  dsimp only at B hT
  intro Q E ret
  dsimp only at ret
  obtain ⟨hA, dp, frs, gds, un⟩ := A; obtain rfl : hA = none := hd.handled
  refine enter B (st := stmtAt 3) (f := 33) (binds := [(Str.ofString "tree", .ref T), (Str.ofString "node", .int (i : Int) ti)]) (by k_is) rfl (by k_is) hd.room (by rfl) (by rfl) ?_
  obtain ⟨t, n, hdT⟩ := hT.dict
  have hTi := hT.inst
  have X := B.X
  have T' := B.T
  intro h₁ tk F
  dsimp only at F ⊢
  have N : News hp0 hp0.objs.size h₁ [] := News.nil
  have hl' : l.length ≤ 1000 := by omega
  have hk' : (r.kind != Str.ofString "element") = false := by rw [bne, hk]; rfl
  k_steps
  unfold Stop
  (rename Fr _ _ _ _ => F1)
  refine For_invVF F1 rfl rfl ?_
  k_steps
  unfold Stop
  (rename Fr _ _ _ _ => F1); (rename News _ _ _ _ => N1)
  rename_i Dl _ _ Dm _ om lom hsm hfm _ _ lDm _ _ _ _ _ _ _ _ _ l0 vs0 n0 _ _ _ _ sa ws _ hI hlt
  refine eachL (NisO rs w T Dl Dm sa (listOf ws.toArray 0) i ti (i :: l)) rfl F1 (news := (Dm, om) :: (Dl, listOf ([] : List Value).toArray 0) :: [(sa, listOf ws.toArray 0)]) (news_sub N1 (SubL.mem (by k_subL))) (.inr ⟨.tail _ (.tail _ (.head _)), ?mem⟩) ?start ?turn ?done
  case mem => intro k m nx hJ; cases hJ with | mk a b c d e f g h => exact .tail _ (.tail _ f)
  case start =>
    refine .mk (met := []) (qs := []) ⟨rfl, rfl, rfl, rfl, trivial⟩ ⟨_, _, hsm, hfm, fun x => rfl, Nat.zero_le _⟩ rfl .nil rfl (.head _) ?_ ?_
    · intro p hp; rw [List.mem_singleton.mp hp]; show @Ne Nat sa Dm; omega
    · intro p hp; rw [List.mem_singleton.mp hp]; show @Ne Nat sa Dl; omega
  case done =>
    intro m2 nx2 h2 tk2 hJ2 F2 N2
    cases hJ2 with
    | mk hm2 hmet2 hlv2 hlots2 hq hsa2 hDm2 hDl2 =>
    rename_i om2 tl2 lv2 c2 met2 qs2
    have hwl : ws.length = (i :: l).length := ids_size (ns := i :: l) hI
    rw [hwl, List.drop_length] at hq
    have hq' : qs2 = lotsOf rs (i :: l) [] := by simpa [lotsOf] using hq
    have F5 := fr_has F2 hm2
    dsimp only [setL, envOf] at F5
    dsimp only [envOf] at N2
    clear F1 N1 F2
    have hl100 : lv2.length ≤ 100 := by rw [hlv2, hwl]; exact hl
    k_steps
    unfold Stop
    have N6 := N2
    refine ListComp_two (itemsAt h2) (fun _ _ => true) (fun z r => r = z) rfl (cl := []) (by with_unfolding_all rfl) (by decide) (by rfl) (by decide) (by rfl) (by rfl) (by decide) ?_
    refine wpAny_mono (Q := NisR hp0 hp0.objs.size gn dr os lv2 tl2) ?_ (fun v s' hv' => ?_) fun _ _ e => e
    · k_steps
      (rename Fr _ _ _ _ => F7); (rename News _ _ _ _ => N7)
      exact .mk F7 (news_sub N7 (List.forall_mem_cons.mpr ⟨.head _, fun p hp => .tail _ (.tail _ (.tail _ hp))⟩))
    cases hv' with
    | mk F7 N7 =>
    rename_i m1 D3 n3 h3 tk3
    have hNt : ∀ p ∈ tl2, h2.get? p.1 = some p.2 := fun p hp => (N6 p (.tail _ (.tail _ hp))).1
    have hall := hlots2.all hNt
    have hlen : (lv2.reverse.flatMap (itemsAt h2)).length ≤ sizeLine := by
      rw [ids_size (ns := qs2.reverse.flatten) hall.1, flat_rev_len, hq', sizeLine_eq]
      have h1 := lotsOf_len (rs := rs) (l := i :: l) (met := []) (fun e he => by
        obtain ⟨re, hre, _⟩ := hline e he
        have h2 := (hT.all re (List.mem_of_getElem? hre)).small.2.2
        unfold nsOf
        split
        · rw [hre]; exact h2
        · exact Nat.zero_le _)
      simp only [List.length_cons] at h1
      omega
    have hmem : ∀ u ∈ lv2.reverse, ∃ a vs n, u = .ref a ∧ (a, W.listOf vs.toArray n) ∈ tl2 ∧ itemsAt h2 u = vs := fun u hu => hall.2 u (List.mem_reverse.mp hu)
    refine ⟨D3, lv2.reverse, rfl, ⟨_, (N7 _ (.head _)).1, rfl, _, rfl⟩, hlen, ⟨?_, ?_, ?_⟩, ?_⟩
    · intro C u s2 m2' E' hC hu hns hm2 hk
      obtain ⟨a, vs, n, rfl, ha, hit⟩ := hmem u hu
      refine wpAny_Name (wpAny_loadName_local rfl rfl hns hm2 ?_)
      exact ⟨⟨a, rfl, _, (N7 _ (.tail _ ha)).1, rfl, n, by rw [hit]⟩, _, _, rfl, fun _ _ e => e⟩
    · intro C u z s2 m2' E' hC hu hz hns hm2 hm3 hk
      exact wpAny_pure ⟨rfl, _, _, rfl, fun _ _ e => e⟩
    · intro C u z s2 m2' E' hC hu hz hp hns hm2 hm3 hk
      refine wpAny_Name (wpAny_loadName_local rfl rfl hns hm3 ?_)
      exact ⟨rfl, _, _, rfl, fun _ _ e => e⟩
    · intro D' h' tk' ys hD hpl hpair hk
      have hys : ys.toList = lv2.reverse.flatMap (itemsAt h2) := by
        have e1 : ∀ {a b : List Value}, Paired (fun z r : Value => r = z) a b → b = a := fun h => by
          induction h with
          | nil => rfl
          | cons e _ ih => rw [e, ih]
        rw [e1 hpair]
        congr 1
        funext u
        exact List.filter_eq_self.mpr fun _ _ => rfl
      obtain ⟨n, hpl⟩ := hpl
      refine ret _ _ _ (fun b o e => hk b o (F7.keep b o e)) ⟨D', rfl, ⟨ys.toList, ⟨n, hpl⟩, ?_⟩, ?_⟩
      · rw [hys, nisOf, ← hq']; exact hall.1
      · cases e : hp0.get? D' with
        | none => rfl
        | some o => rw [F7.keep _ _ e] at hD; cases hD
  case turn =>
    intro I hIlt k v m nx it h tk hv hoff hJ F2 N2
    cases hJ with
    | mk hm hmet hlv hlots heq hsa hDm hDl =>
    rename_i om tl lv c met qs
    obtain ⟨j, tj, hj, rfl⟩ := ints_getN (ns := i :: l) hI hv
    have F3 := fr_has1 F2 hm
    dsimp only [setL, envOf] at F3
    dsimp only [envOf] at N2
    clear F1 N1 F2
    generalize hPo : UnrPost _ _ _ _ _ _ _ = Po
    k_steps
    unfold Stop
    (rename Fr _ _ _ _ => F1); (rename News _ _ _ _ => N1)
    rename_i Dq _ lDq _
    refine For_invVF F1 rfl rfl ?_
    obtain ⟨rj, hrj, hjn⟩ := hline j (List.mem_of_getElem? hj)
    have hnn : nsOf rs j = if rj.kind = Str.ofString "element" then rj.nss else [] := by simp [nsOf, kdOf, hrj]
    have hns := (hT.all rj (List.mem_of_getElem? hrj)).small.2.2
    have hnnl : (nsOf rs j).length ≤ 1000 := by rw [hnn]; split; exact hns; exact Nat.zero_le _
    refine wpAny_mono (Q := NisL hp0 hp0.objs.size gn dr os T Dl Dm Dq I i ti j tj (nsOf rs j) ((Dq, listOf ([] : List Value).toArray 0) :: (I, it) :: (Dm, om) :: (Dl, listOf lv.toArray c) :: tl)) ?_ (fun v s' hv' => ?_) fun _ _ e => e
    · by_cases hke : rj.kind = Str.ofString "element"
      · have hke1 : (rj.kind == Str.ofString "element") = true := beq_iff_eq.mpr hke
        rw [if_pos hke] at hnn
        rw [hnn]
        clear hPo
        k_steps
        (rename Fr _ _ _ _ => F4); (rename News _ _ _ _ => N4); (rename _ ∧ _ => n4); (rename IntsAre _ _ => hI4)
        exact .mk ⟨rfl, rfl, rfl, rfl, rfl, rfl, trivial⟩ F4 N4 hI4 ⟨n4.1, n4.2.2.1, n4.2.1, n4.2.2.2.1⟩
      · have hke1 : (rj.kind == Str.ofString "element") = false := beq_eq_false_iff_ne.mpr hke
        rw [if_neg hke] at hnn
        rw [hnn]
        clear hPo
        k_steps
        (rename Fr _ _ _ _ => F4); (rename News _ _ _ _ => N4); (rename _ ∧ _ => n4)
        exact .mk (vq := []) ⟨rfl, rfl, rfl, rfl, rfl, rfl, trivial⟩ F4 N4 .nil ⟨Nat.ne_of_lt n4.1, Nat.ne_of_lt n4.2.2.1, Nat.ne_of_lt n4.2.1, Nat.ne_of_lt n4.2.2.2.1⟩
    cases hv' with
    | mk hm1 F4 N4 hI4 hne4 =>
    rename_i m1 La vq nq h' tk'
    clear F1 N1
    have FXe : ∀ p ∈ (La, listOf vq.toArray nq) :: (I, it) :: (Dl, listOf lv.toArray c) :: tl, p.1 ≠ Dq := List.forall_mem_cons.mpr ⟨Ne.symm hne4.1, List.forall_mem_cons.mpr ⟨Nat.ne_of_lt lDq.1, List.forall_mem_cons.mpr ⟨Nat.ne_of_lt lDq.2.2.1, fun p hp => Nat.ne_of_lt (allLt_mem lDq.2.2.2 p hp)⟩⟩⟩
    have FXm : ∀ p ∈ (La, listOf vq.toArray nq) :: (I, it) :: (Dl, listOf lv.toArray c) :: tl, p.1 ≠ Dm := List.forall_mem_cons.mpr ⟨Ne.symm hne4.2.1, List.forall_mem_cons.mpr ⟨Ne.symm (hoff _ (.head _)), List.forall_mem_cons.mpr ⟨Nat.ne_of_lt lDm, hDm⟩⟩⟩
    refine eachL (NisI rs w T Dl Dm Dq ((La, listOf vq.toArray nq) :: (I, it) :: (Dl, listOf lv.toArray c) :: tl) i ti j tj (nsOf rs j) met (1000 * k)) rfl F4 (news := (Dq, listOf ([] : List Value).toArray 0) :: (Dm, om) :: (La, listOf vq.toArray nq) :: (I, it) :: (Dl, listOf lv.toArray c) :: tl) (news_sub N4 (by walk_at "subT")) (.inr ⟨.tail _ (.tail _ (.head _)), ?mem1⟩) ?start1 ?turn1 ?done1
    case mem1 => intro k m nx hJ; cases hJ with | mk a b c d e f => exact .tail _ (.tail _ (.head _))
    case start1 => exact .mk (q := []) hm1 hmet .nil (Nat.zero_le _) rfl rfl
    case done1 =>
      intro m2 nx2 h2 tk2 hJ2 F2 N2
      cases hJ2 with
      | mk hm2 hmet2 hI2 hlen2 hq1 hq2 =>
      rename_i om2 vq2 c2 met2 q2
      rw [(ids_size hI4 : vq.length = _)] at hmet2 hlen2 hq1 hq2
      rw [List.drop_length] at hq1 hq2
      have hq1' : q2 = (lotOf rs (nsOf rs j) met).1 := by simpa [lotOf] using hq1
      have hq2' : met2 = (lotOf rs (nsOf rs j) met).2 := hq2
      have F5 := fr_has F2 hm2
      dsimp only [setL, envOf] at F5
      dsimp only [envOf] at N2
      clear F4 N4 F2
      have hk100 : k < 100 := by
        have := (List.getElem?_eq_some_iff.mp hj).1
        simp only [List.length_cons] at this; omega
      have nDqDm : @Ne Nat Dq Dm := Nat.ne_of_gt lDq.2.1
      have hszl : lv.toArray.size ≤ sizeLine := size_of (by omega)
      have a1 : @Ne Nat Dq Dl := Nat.ne_of_gt lDq.2.2.1
      have a2 : @Ne Nat I Dl := Ne.symm (hoff _ (.tail _ (.head _)))
      have a3 : @Ne Nat La Dl := Ne.symm hne4.2.2.2
      k_steps
      subst hPo
      show UnrEnd _ _ _ _ _ _ _
      (rename Fr _ _ _ _ => F6); (rename News _ _ _ _ => N6)
      rw [List.push_toArray] at N6
      refine UnrEnd.intro F6 N6 ((Dm, om2) :: (Dl, W.listOf (lv ++ [Value.ref Dq]).toArray (c + 1)) :: (Dq, W.listOf vq2.toArray c2) :: tl) (by walk_at "subT") (List.forall_mem_cons.mpr ⟨hoff (Dm, om) (.head _), List.forall_mem_cons.mpr ⟨hoff (Dl, W.listOf lv.toArray c) (.tail _ (.head _)), List.forall_mem_cons.mpr ⟨Nat.ne_of_gt lDq.1, fun p hp => hoff p (.tail _ (.tail _ hp))⟩⟩⟩) ?_
      refine NisO.mk (k := k + 1) (met := met2) (qs := qs ++ [q2]) (lv := lv ++ [.ref Dq]) (tl := (Dq, W.listOf vq2.toArray c2) :: tl) ?hm (hmet2.weak (b' := 1000 * (k + 1)) (by omega)) (by rw [List.length_append]; exact congrArg (· + 1) hlv) (.snoc (hlots.mono fun p hp => .tail _ hp) (.head _) hI2) ?_ (.tail _ hsa) (List.forall_mem_cons.mpr ⟨nDqDm, hDm⟩) (List.forall_mem_cons.mpr ⟨a1, hDl⟩)
      case hm => exact ⟨rfl, rfl, rfl, rfl, trivial⟩
      rw [drop_get hj] at heq
      rw [List.append_assoc, ← heq, hq1', hq2']; rfl
    case turn1 =>
      intro I2 hIlt2 k2 v2 m2 nx2 it2 h2 tk2 hv2 hoff2 hJ2 F2 N2
      generalize hFX : (La, listOf vq.toArray nq) :: (I, it) :: (Dl, listOf lv.toArray c) :: tl = FX at *
      cases hJ2 with
      | mk hm2 hmet2 hI2 hlen2 hq1 hq2 =>
      rename_i om2 vq2 c2 met2 q2
      obtain ⟨j2, t2, hj2, rfl⟩ := ints_getN (ns := nsOf rs j) hI4 hv2
      rw [drop_get hj2] at hq1 hq2
      have hj2m : j2 ∈ rj.nss := by
        have := List.mem_of_getElem? hj2
        rw [hnn] at this
        split at this
        · exact this
        · cases this
      obtain ⟨rq, hrq⟩ := hjn j2 hj2m
      have hnm : nmOf rs j2 = rq.name := by simp [nmOf, hrq]
      have hvl : vlOf rs j2 = rq.value := by simp [vlOf, hrq]
      have hb2 : k2 < 1000 := Nat.lt_of_lt_of_le (List.getElem?_eq_some_iff.mp hj2).1 hnnl
      obtain ⟨kvs2, D2, hd2, hf2, hmm2, hD2⟩ := hmet2.ex
      have F5 := fr_has1 F2 hm2
      dsimp only [setL, envOf] at F5
      dsimp only [envOf] at N2
      clear F4 N4 F2
      have nDqDm : @Ne Nat Dq Dm := Nat.ne_of_gt lDq.2.1
      have nIDq : @Ne Nat I2 Dq := Ne.symm (hoff2 _ (.head _))
      have nIDm : @Ne Nat I2 Dm := Ne.symm (hoff2 _ (.tail _ (.head _)))
      have offFX : ∀ p ∈ FX, p.1 ≠ I2 := fun p hp => hoff2 p (.tail _ (.tail _ hp))
      have hsz2 : vq2.toArray.size ≤ sizeLine := size_of (by omega)
      have hk100 : k < 100 := by
        have := (List.getElem?_eq_some_iff.mp hj).1
        simp only [List.length_cons] at this; omega
      generalize hPo2 : UnrPost _ _ _ _ _ _ _ = Po2
      cases hb : (PySem.Spec.lookup (.str rq.name) D2).isSome with
      | true =>
        have hb1 : (!(PySem.Spec.lookup (.str rq.name) D2).isSome) = false := by rw [hb]; rfl
        have hmem : nmOf rs j2 ∈ met2 := by rw [hnm]; exact of_decide_eq_true ((hmm2 rq.name).symm.trans hb)
        rw [lotOf, if_pos hmem] at hq1 hq2
        k_steps
        subst hPo2
        show UnrEnd _ _ _ _ _ _ _
        (rename Fr _ _ _ _ => F6); (rename News _ _ _ _ => N6)
        refine UnrEnd.intro F6 N6 ((Dq, listOf vq2.toArray c2) :: (Dm, om2) :: FX) (by walk_at "subT") (List.forall_mem_cons.mpr ⟨Ne.symm nIDq, List.forall_mem_cons.mpr ⟨Ne.symm nIDm, offFX⟩⟩) ?_
        exact .mk ⟨rfl, rfl, rfl, rfl, rfl, rfl, trivial⟩ (hmet2.weak (by omega)) hI2 (by omega) hq1 hq2
      | false =>
        have hb1 : (!(PySem.Spec.lookup (.str rq.name) D2).isSome) = true := by rw [hb]; rfl
        have hmem : nmOf rs j2 ∉ met2 := by rw [hnm]; exact of_decide_eq_false ((hmm2 rq.name).symm.trans hb)
        rw [lotOf, if_neg hmem] at hq1 hq2
        dsimp only at hq1 hq2
        by_cases hva : rq.value = Str.ofString ""
        · have hva1 : (rq.value != Str.ofString "") = false := by rw [hva]; exact bne_self_eq_false _
          rw [if_neg (by rw [hvl]; exact fun h => h hva)] at hq1
          k_steps
          subst hPo2
          show UnrEnd _ _ _ _ _ _ _
          (rename Fr _ _ _ _ => F6); (rename News _ _ _ _ => N6); (rename Obj.IsDictOf _ _ _ => hd6); (rename PyProof.V.FlatPairs _ _ _ => hf6)
          refine UnrEnd.intro F6 N6 ((Dq, listOf vq2.toArray c2) :: (Dm, _) :: FX) (by walk_at "subT") (List.forall_mem_cons.mpr ⟨Ne.symm nIDq, List.forall_mem_cons.mpr ⟨Ne.symm nIDm, offFX⟩⟩) ?_
          refine .mk ⟨rfl, rfl, rfl, rfl, rfl, rfl, trivial⟩ ⟨_, _, hd6, hf6, fun x => ?_, Nat.le_trans (PyProof.V.putD_length_le _ _ _) (by omega)⟩ hI2 (by omega) hq1 hq2
          rw [isSome_put, hmm2 x, hnm]; simp
        · have hva1 : (rq.value != Str.ofString "") = true := bne_iff_ne.mpr hva
          rw [if_pos (by rw [hvl]; exact hva)] at hq1
          k_steps
          subst hPo2
          show UnrEnd _ _ _ _ _ _ _
          (rename Fr _ _ _ _ => F6); (rename News _ _ _ _ => N6); (rename Obj.IsDictOf _ _ _ => hd6); (rename PyProof.V.FlatPairs _ _ _ => hf6)
          rw [List.push_toArray] at N6
          refine UnrEnd.intro F6 N6 ((Dq, listOf _ _) :: (Dm, _) :: FX) (by walk_at "subT") (List.forall_mem_cons.mpr ⟨Ne.symm nIDq, List.forall_mem_cons.mpr ⟨Ne.symm nIDm, offFX⟩⟩) ?_
          refine .mk ⟨rfl, rfl, rfl, rfl, rfl, rfl, trivial⟩ ⟨_, _, hd6, hf6, fun x => ?_, Nat.le_trans (PyProof.V.putD_length_le _ _ _) (by omega)⟩ (ids_snoc hI2 j2 t2) (by rw [List.length_append]; exact Nat.succ_le_succ hlen2) (by rw [List.append_assoc]; exact hq1) hq2
          rw [isSome_put, hmm2 x, hnm]; simp
end
noncomputable abbrev DD := List (PyData × PyData)
noncomputable def nssR (rs : List Row) (e : Nat) : List Nat := ((rs[e]?).map Row.nss).getD []
/-- one told node, nearest last -/
noncomputable def scS (rs : List Row) (D : DD) (t : Nat) : DD :=
  if vlOf rs t = Str.ofString "" then (if (PySem.Spec.lookup (.str (nmOf rs t)) D).isSome then PyProof.V.delD (.str (nmOf rs t)) D else D) else PyProof.V.putD (.str (nmOf rs t)) (.str (vlOf rs t)) D
noncomputable def scN (rs : List Row) (l : List Nat) (D : DD) : DD := l.foldl (scS rs) D
noncomputable def scL (rs : List Row) (line : List Nat) (D : DD) : DD := line.foldl (fun D e => scN rs (nssR rs e) D) D
noncomputable def xmlD : DD := [(.str (Str.ofString "xml"), .str (Str.ofString "http://www.w3.org/XML/1998/namespace"))]
structure DictS (w : World) (o : Obj) (D : DD) : Prop where
  ex : ∃ kvs, o.IsDictOf (PySem.strKind prg w) kvs ∧ PyProof.V.FlatPairs PyData.str kvs D
inductive ScO (rs : List Row) (w : World) (T Dd sa : Addr) (so : Obj) (i : Nat) (ti : Tok) (line : List Nat) : Nat → (Str → Option Value) → List (Addr × Obj) → Prop
  | mk {k : Nat} {m : Str → Option Value} {o : Obj} {D : DD} : Has m [(Str.ofString "tree", .ref T), (Str.ofString "element", .int (i : Int) ti), (Str.ofString "found", .ref Dd)] → DictS w o D → D.length ≤ 1 + 1000 * k →
    scL rs (line.drop k) D = scL rs line xmlD → ScO rs w T Dd sa so i ti line k m [(Dd, o), (sa, so)]
inductive ScI (rs : List Row) (w : World) (T Dd : Addr) (FX : List (Addr × Obj)) (i : Nat) (ti : Tok) (nn : List Nat) (D0 : DD) (b : Nat) : Nat → (Str → Option Value) → List (Addr × Obj) → Prop
  | mk {k : Nat} {m : Str → Option Value} {o : Obj} {D : DD} : Has m [(Str.ofString "tree", .ref T), (Str.ofString "element", .int (i : Int) ti), (Str.ofString "found", .ref Dd)] → DictS w o D → D.length ≤ b + k →
    scN rs (nn.drop k) D = scN rs nn D0 → ScI rs w T Dd FX i ti nn D0 b k m ((Dd, o) :: FX)
noncomputable def NewDict (w : World) (h h' : Heap) (v : Value) (D : DD) : Prop := ∃ d o, v = .ref d ∧ h'.get? d = some o ∧ DictS w o D ∧ (d == sysModules) = false ∧ h.get? d = none
local macro_rules | `(tactic| walk_at "inP") => `(tactic| (intro h' o' v' hv' F' N' hd' hf'; try dsimp only at N'))
theorem rows_k : True := by
  (k_with "call builtin:dict.pop" => (k_here; (with_reducible show wpAny _ _ (call (Value.builtin "dict.pop") [Value.ref _, Value.str _ _]) _ _ _); k_dflt (refine' kt_pop_K (more := []) PyProof.V.same_str (strKind_is _ _ _ _) (.inl rfl) (by rfl) (PySem.F.args_dict_pop_2 _ _) ?qF ?qN ?qU ?qd ?qf ?ql ?_ ?qz; (case qF => k_asm); (case qN => k_asm); (case qU => k_updF); (case qd => k_asm); (case qf => k_asm); (case ql => first | with_reducible assumption | rfl); (case qz => (rw [PySem.sizeLine_eq]; omega))); walk_at "inP"))
  trivial
section
variable {w : World} {p : Program} {loose : List Str} {mean : ExcName → Option Value} {mg mb : Str → Option Value} {A : Around} {s : Shared}
theorem scope_c (B : Bs w p loose mean mg mb s.heap) (hd : Rm A 5) {T dT R : Addr} {rs : List Row} (hT : TreeAt w.params s.heap T dT R rs) {i : Nat} {ti : Tok} {l : List Nat} (hU : Up rs i l) (hl : l.length < 100) (hline : ∀ e ∈ (i :: l).reverse, ∃ r, rs[e]? = some r ∧ ∀ j ∈ r.nss, ∃ q, rs[j]? = some q) :
    RO w A s (call (.ref 73) [.ref T, .int (i : Int) ti]) fun v h' => NewDict w s.heap h' v (scL rs (i :: l).reverse xmlD) := by
  refine fill0 ?_; k_fill; intro _
  obtain ⟨hp0, gn, dr, tk0, os⟩ := s
  dsimp only at B hT
  intro Q E ret
  dsimp only at ret
  obtain ⟨hA, dp, frs, gds, un⟩ := A; obtain rfl : hA = none := hd.handled
  refine enter B (st := stmtAt 11) (f := 73) (binds := [(Str.ofString "tree", .ref T), (Str.ofString "element", .int (i : Int) ti)]) (by k_is) rfl (by k_is) hd.room (by rfl) (by rfl) ?_
  obtain ⟨t, n, hdT⟩ := hT.dict
  have hTi := hT.inst
  have X := B.X
  have T' := B.T
  intro h₁ tk F
  dsimp only at F ⊢
  have N : News hp0 hp0.objs.size h₁ [] := News.nil
  have hl' : l.length < 1000 := by omega
  k_steps
  unfold Stop
  (rename Fr _ _ _ _ => F1)
  refine For_invVF F1 rfl rfl ?_
  k_steps
  unfold Stop
  (rename Fr _ _ _ _ => F1); (rename News _ _ _ _ => N1)
  rename_i o0 lo0 hd0 hf0 _ _ _ sa vs0 n0 _ _ hI ne0
  dsimp only at F1 lo0 hd0 hf0 ne0
  generalize hDd : h₁.objs.size = Dd at *
  have nsa : @Ne Nat sa Dd := Ne.symm ne0.1
  refine eachL (ScO rs w T Dd sa (W.listOf vs0.toArray n0) i ti (i :: l).reverse) rfl F1 (news := [(Dd, o0), (sa, W.listOf vs0.toArray n0)]) (news_sub N1 (by walk_at "subT")) (.inr ⟨.tail _ (.head _), ?mem⟩) ?start ?turn ?done
  case mem => intro k m nx hJ; cases hJ; exact .tail _ (.head _)
  case start => exact .mk (D := xmlD) ⟨rfl, rfl, rfl, trivial⟩ ⟨_, hd0, hf0⟩ (Nat.le_refl _) rfl
  case done =>
    intro m nx h tk hJ F2 N2
    cases hJ with
    | mk hm hD hlen heq =>
    rw [(ids_size hI : vs0.length = _), List.drop_length] at heq
    have F3 := fr_has F2 hm
    dsimp only [setL, envOf] at F3
    dsimp only [envOf] at N2
    clear F1 N1 F2
    k_steps
    (rename Fr _ _ _ _ => F4); (rename News _ _ _ _ => N4)
    refine ret _ _ _ F4.keep ⟨Dd, _, rfl, (N4 _ (.head _)).1, ?_, lo0, (N4 _ (.head _)).2.2⟩
    rw [← heq]; exact hD
  case turn =>
    intro I hIlt k v m nx it h tk hv hoff hJ F2 N2
    cases hJ with
    | mk hm hD hlen heq =>
    rename_i o D
    obtain ⟨j, tj, hj, rfl⟩ := ints_getN hI hv
    obtain ⟨rj, hrj, hjn⟩ := hline j (List.mem_of_getElem? hj)
    have hns := (hT.all rj (List.mem_of_getElem? hrj)).small.2.2
    have hnn : nssR rs j = rj.nss := by simp [nssR, hrj]
    have F3 := fr_has1 F2 hm
    dsimp only [setL, envOf] at F3
    dsimp only [envOf] at N2
    clear F1 N1 F2
    have a1 : @Ne Nat I Dd := Ne.symm (hoff _ (.head _))
    generalize hPo : UnrPost _ _ _ _ _ _ _ = Po
    have hk100 : k < 100 := by
      have := (List.getElem?_eq_some_iff.mp hj).1
      simp only [List.length_reverse, List.length_cons] at this; omega
    k_steps
    unfold Stop
    (rename Fr _ _ _ _ => F1)
    refine For_invVF F1 rfl rfl ?_
    k_steps
    unfold Stop
    (rename Fr _ _ _ _ => F4); (rename News _ _ _ _ => N4)
    rename_i La vq nq _ _ hI4 ne4
    try dsimp only at ne4
    refine eachL (ScI rs w T Dd [(La, W.listOf vq.toArray nq), (I, it), (sa, W.listOf vs0.toArray n0)] i ti rj.nss D (1 + 1000 * k)) rfl F4 (news := [(Dd, o), (La, W.listOf vq.toArray nq), (I, it), (sa, W.listOf vs0.toArray n0)]) (news_sub N4 (by walk_at "subT")) (.inr ⟨.tail _ (.head _), ?mem1⟩) ?start1 ?turn1 ?done1
    case mem1 => intro k m nx hJ; cases hJ; exact .tail _ (.head _)
    case start1 => exact .mk ⟨rfl, rfl, rfl, trivial⟩ hD hlen rfl
    case done1 =>
      intro m2 nx2 h2 tk2 hJ2 F2 N2
      cases hJ2 with
      | mk hm2 hD2 hlen2 heq2 =>
      rename_i o2 D2
      rw [(ids_size hI4 : vq.length = _)] at hlen2 heq2
      rw [List.drop_length] at heq2
      have F5 := fr_has F2 hm2
      dsimp only [setL, envOf] at F5
      dsimp only [envOf] at N2
      clear F4 N4 F2
      k_steps
      subst hPo
      show UnrEnd _ _ _ _ _ _ _
      (rename Fr _ _ _ _ => F6); (rename News _ _ _ _ => N6)
      refine UnrEnd.intro F6 N6 [(Dd, o2), (sa, W.listOf vs0.toArray n0)] (by walk_at "subT") (List.forall_mem_cons.mpr ⟨Ne.symm a1, fun p hp => hoff p (.tail _ hp)⟩) ?_
      refine ScO.mk (k := k + 1) (D := D2) ?hm hD2 (by omega) ?_
      case hm => exact ⟨rfl, rfl, rfl, trivial⟩
      have e2 : D2 = scN rs rj.nss D := heq2
      rw [e2, ← heq, drop_get hj]
      show _ = scL rs _ (scN rs (nssR rs j) D)
      rw [hnn]
    case turn1 =>
      intro I2 hIlt2 k2 v2 m2 nx2 it2 h2 tk2 hv2 hoff2 hJ2 F2 N2
      cases hJ2 with
      | mk hm2 hD2 hlen2 heq2 =>
      rename_i o2 D2
      obtain ⟨j2, t2, hj2, rfl⟩ := ints_getN hI4 hv2
      rw [drop_get hj2] at heq2
      have heq3 : scN rs (rj.nss.drop (k2 + 1)) (scS rs D2 j2) = scN rs rj.nss D := heq2
      obtain ⟨rq, hrq⟩ := hjn j2 (List.mem_of_getElem? hj2)
      have hnm : nmOf rs j2 = rq.name := by simp [nmOf, hrq]
      have hvl : vlOf rs j2 = rq.value := by simp [vlOf, hrq]
      rw [scS, hnm, hvl] at heq3
      have hb2 : k2 < 1000 := Nat.lt_of_lt_of_le (List.getElem?_eq_some_iff.mp hj2).1 hns
      obtain ⟨kvs2, hd2, hf2⟩ := hD2.ex
      have F5 := fr_has1 F2 hm2
      dsimp only [setL, envOf] at F5
      dsimp only [envOf] at N2
      clear F4 N4 F2
      have b1 : @Ne Nat I2 Dd := Ne.symm (hoff2 _ (.head _))
      have b2 : @Ne Nat La Dd := Ne.symm ne4.2.1
      have offF : ∀ p ∈ [(Dd, o2), (La, W.listOf vq.toArray nq), (I, it), (sa, W.listOf vs0.toArray n0)], p.1 ≠ I2 := hoff2
      generalize hPo2 : UnrPost _ _ _ _ _ _ _ = Po2
      by_cases hva : rq.value = Str.ofString ""
      · have hva1 : (rq.value != Str.ofString "") = false := by rw [hva]; exact bne_self_eq_false _
        rw [if_pos hva] at heq3
        cases hb : PySem.Spec.lookup (.str rq.name) D2 with
        | none =>
          have hb1 : (PySem.Spec.lookup (.str rq.name) D2).isSome = false := by rw [hb]; rfl
          rw [hb1, if_neg Bool.false_ne_true] at heq3
          k_steps
          subst hPo2
          show UnrEnd _ _ _ _ _ _ _
          (rename Fr _ _ _ _ => F6); (rename News _ _ _ _ => N6)
          refine UnrEnd.intro F6 N6 [(Dd, o2), (La, W.listOf vq.toArray nq), (I, it), (sa, W.listOf vs0.toArray n0)] (by walk_at "subT") offF ?_
          exact .mk ⟨rfl, rfl, rfl, trivial⟩ hD2 (by omega) heq3
        | some dv =>
          have hb1 : (PySem.Spec.lookup (.str rq.name) D2).isSome = true := by rw [hb]; rfl
          rw [hb1, if_pos rfl] at heq3
          k_steps
          subst hPo2
          show UnrEnd _ _ _ _ _ _ _
          (rename Fr _ _ _ _ => F6); (rename News _ _ _ _ => N6); (rename Obj.IsDictOf _ _ _ => hd6); (rename PyProof.V.FlatPairs _ _ _ => hf6)
          refine UnrEnd.intro F6 N6 [(Dd, _), (La, W.listOf vq.toArray nq), (I, it), (sa, W.listOf vs0.toArray n0)] (by walk_at "subT") (List.forall_mem_cons.mpr ⟨Ne.symm b1, fun p hp => offF p (.tail _ hp)⟩) ?_
          exact .mk ⟨rfl, rfl, rfl, trivial⟩ ⟨_, hd6, hf6⟩ (Nat.le_trans (List.length_filter_le _ _) (by omega)) heq3
      · have hva1 : (rq.value != Str.ofString "") = true := bne_iff_ne.mpr hva
        rw [if_neg hva] at heq3
        k_steps
        subst hPo2
        show UnrEnd _ _ _ _ _ _ _
        (rename Fr _ _ _ _ => F6); (rename News _ _ _ _ => N6); (rename Obj.IsDictOf _ _ _ => hd6); (rename PyProof.V.FlatPairs _ _ _ => hf6)
        refine UnrEnd.intro F6 N6 [(Dd, _), (La, W.listOf vq.toArray nq), (I, it), (sa, W.listOf vs0.toArray n0)] (by walk_at "subT") (List.forall_mem_cons.mpr ⟨Ne.symm b1, fun p hp => offF p (.tail _ hp)⟩) ?_
        refine .mk ⟨rfl, rfl, rfl, trivial⟩ ⟨_, hd6, hf6⟩ (Nat.le_trans (PyProof.V.putD_length_le _ _ _) (by omega)) heq3
end
section
variable {w : World} {A : Around} {s : Shared} {E : Value → Shared → Prop}
theorem katlex {Q : Bool → Shared → Prop} : ∀ {vs us : List Value} {ns ms : List Int}, IntsAre vs ns → IntsAre us ms → ∀ i, Q (lexLt ns ms) s → KatLex prg w A true (decide (vs.length < us.length)) Q (vs.zip us) i s
  | _, _, _, _, .nil, .nil, _, h => kat_nil h
  | _, _, _, _, .nil, .cons _ _ _, _, h => kat_nil (by simpa [lexLt] using h)
  | _, _, _, _, .cons _ _ _, .nil, _, h => kat_nil (by simpa [lexLt] using h)
  | _, _, _, _, .cons x t hv, .cons y u hu, i, h => by
    refine kat_cons (wpAny_eqBool_int ?_)
    by_cases hxy : x = y
    · subst hxy
      rw [beq_self_eq_true]
      refine kat_yes ?_
      simp only [List.length_cons, Nat.add_lt_add_iff_right]
      exact katlex hv hu (i + 1) (by simpa [lexLt] using h)
    · rw [beq_eq_false_iff_ne.mpr hxy]
      have h : Q (decide (x < y)) s := by simpa [lexLt, hxy] using h
      refine kat_no ?_
      cases i with
      | zero => exact oneLt_int h
      | succ i => exact kat_one _ _ (wpAny_lt_int h)
end
/-- where a sort's questions end, when they are answered by r -/
noncomputable def kasGo {α : Type} (n : Nat) (r : Nat → Nat → Bool) : KasT α → Option α
  | .ret a => some a
  | .ask i j k => if i < n ∧ j < n then kasGo n r (k (r i j)) else none
theorem kasGo_wp {α : Type} {n : Nat} {r : Nat → Nat → Bool} {cmp : Nat → Nat → (Bool → Shared → Prop) → Shared → Prop} {a : α} {Q : α → Shared → Prop} {s : Shared}
    (hc : ∀ i j C, i < n → j < n → C (r i j) s → cmp i j C s) : ∀ (t : KasT α), kasGo n r t = some a → Q a s → t.kasWp cmp Q s
  | .ret b, e, q => by cases e; exact q
  | .ask i j k, e, q => by
    unfold kasGo at e
    split at e
    · rename_i hij
      exact hc i j _ hij.1 hij.2 (kasGo_wp hc (k (r i j)) e q)
    · cases e
theorem kasGo_two : kasGo 2 (fun i j => decide (j < i)) (kas_sort 2) = some #[1, 0] := by decide +kernel
theorem kasGo_three : kasGo 3 (fun i j => decide (j < i)) (kas_sort 3) = some #[2, 1, 0] := by decide +kernel
/-- the keys of a sort: tuples of a ledger -/
structure KeysAt (news : List (Addr × Obj)) (kz : List Value) (ps : Nat → List Int) : Prop where
  at_ : ∀ i, i < kz.length → ∃ l us c x r, kz[i]? = some (.ref l) ∧ (l, tupO us c) ∈ news ∧ IntsAre us (x :: r) ∧ ps i = x :: r
theorem KeysAt.tups {news : List (Addr × Obj)} {kz : List Value} {ps : Nat → List Int} (h : KeysAt news kz ps) {hp : Heap} (N : ∀ p ∈ news, hp.get? p.1 = some p.2) : ∃ fs, KatTups hp kz fs ∧ (∀ f ∈ fs, ∃ x t, f = .int x t) ∧ fs.length = kz.length := by
  have go : ∀ (k : List Value), (∀ i, i < k.length → ∃ l us c x r, k[i]? = some (.ref l) ∧ (l, tupO us c) ∈ news ∧ IntsAre us (x :: r)) → ∃ fs, KatTups hp k fs ∧ (∀ f ∈ fs, ∃ x t, f = .int x t) ∧ fs.length = k.length := by
    intro k
    induction k with
    | nil => intro _; exact ⟨[], .nil, (fun _ h => nomatch h), rfl⟩
    | cons v k ih =>
      intro hk
      obtain ⟨fs, h1, h2, h3⟩ := ih fun i hi => by
        have := hk (i + 1) (Nat.succ_lt_succ hi)
        simpa using this
      obtain ⟨l, us, c, x, r, e, hm, hi⟩ := hk 0 (Nat.succ_pos _)
      have e' : v = .ref l := by simpa using e
      subst e'
      cases hi with
      | cons _ t hr =>
        refine ⟨.int x t :: fs, .cons (N _ hm) rfl rfl rfl h1, fun f hf => ?_, by rw [List.length_cons, List.length_cons, h3]⟩
        rcases List.mem_cons.mp hf with rfl | hf
        · exact ⟨x, t, rfl⟩
        · exact h2 f hf
  exact go kz fun i hi => let ⟨l, us, c, x, r, a, b, d, _⟩ := h.at_ i hi; ⟨l, us, c, x, r, a, b, d⟩
section
variable {w : World} {A : Around} {s : Shared} {E : Value → Shared → Prop} {h₀ : Heap} {L a : Addr} {m : Str → Option Value} {news : List (Addr × Obj)}
/-- a key's call, at any heap that has the ledger -/
noncomputable def KeyCall (w : World) (A : Around) (h₀ : Heap) (L : Addr) (m : Str → Option Value) (news : List (Addr × Obj)) (gn : Array GenState) (dr : Drawn) (os : OsState) (f v k : Value) : Prop :=
  ∀ h' tk', Fr h₀ L h' m → News h₀ L h' news → RO w A { heap := h', gens := gn, drawn := dr, toks := tk', os := os } (call f [v]) fun r _ => r = k
theorem katkeys {gn : Array GenState} {dr : Drawn} {os : OsState} {vs kz : List Value} {f : Value} {kS e1 : Nat} {Fin : List Value → Nat → Shared → Prop} (hl : kz.length = vs.length) (hcall : ∀ (i : Nat) (v k : Value), vs[i]? = some v → kz[i]? = some k → KeyCall w A h₀ L m news gn dr os f v k)
    (hk1 : ∀ q ∈ news, q.1 < kS) (hk2 : a < kS)
    (fin : ∀ e h' tk', Fr h₀ L h' m → News h₀ L h' ((kS, seqObj "list" kz.toArray e) :: (a, seqObj "list" #[] e1) :: news) → Fin kz e { heap := h', gens := gn, drawn := dr, toks := tk', os := os }) :
    ∀ (r : List Value) (i : Nat) (e : Nat) (h' : Heap) (tk' : Nat), r = vs.drop i → i ≤ vs.length → Fr h₀ L h' m → News h₀ L h' ((kS, seqObj "list" (kz.take i).toArray e) :: (a, seqObj "list" #[] e1) :: news) →
      KatKeys prg w A h₀ L m kS f Fin r (kz.take i) e { heap := h', gens := gn, drawn := dr, toks := tk', os := os }
  | [], i, e, h', tk', hr, hi, F, N => by
    have hle : vs.length ≤ i := by
      have := congrArg List.length hr
      rw [List.length_drop] at this
      simp only [List.length_nil] at this; omega
    rw [List.take_of_length_le (by omega)] at N ⊢
    exact KatKeys.nil (fin e h' tk' F N)
  | v :: r, i, e, h', tk', hr, hi, F, N => by
    have hlt : i < vs.length := by
      have := congrArg List.length hr
      rw [List.length_drop] at this
      simp only [List.length_cons] at this; omega
    have hv : vs[i]? = some v := by
      have : (vs.drop i)[0]? = some v := by rw [← hr]; rfl
      simpa using this
    have hr' : r = vs.drop (i + 1) := by
      have := congrArg List.tail hr
      simpa using this
    obtain ⟨k, hk⟩ : ∃ k, kz[i]? = some k := ⟨_, List.getElem?_eq_getElem (by omega)⟩
    have hsn : kz.take i ++ [k] = kz.take (i + 1) := by rw [List.take_add_one, hk]; rfl
    refine KatKeys.cons (hcall i v k hv hk h' tk' F (news_sub N fun p hp => .tail _ (.tail _ hp)) _ _ fun r' h2 tk2 kp hr2 => ?_)
    subst hr2
    refine KatBack.intro (fr_grow F kp) (news_grow N kp) (.head (List.forall_mem_cons.mpr ⟨Nat.ne_of_lt hk2, fun q hq => Nat.ne_of_lt (hk1 q hq)⟩)) fun h3 c F3 N3 => ?_
    rw [hsn] at N3 ⊢
    exact katkeys hl hcall hk1 hk2 fin r (i + 1) c h3 tk2 hr' hlt F3 N3
theorem sort_desc {gn : Array GenState} {dr : Drawn} {os : OsState} {h1 : Heap} {tk1 : Nat} {vs kz : List Value} {ps : Nat → List Int} {f : Value} {n : Nat} {P : PySem.Fin → Shared → Prop} (hn : 2 ≤ vs.length) (h3 : vs.length ≤ 3) (hu : True)
    (hl : kz.length = vs.length) (hcall : ∀ (i : Nat) (v k : Value), vs[i]? = some v → kz[i]? = some k → KeyCall w A h₀ L m news gn dr os f v k) (hkz : KeysAt news kz ps) (hdesc : ∀ i j, i < vs.length → j < vs.length → lexLt (ps i) (ps j) = decide (j < i))
    (F : Fr h₀ L h1 m) (N : News h₀ L h1 news) (ho : h1.get? a = some (seqObj "list" vs.toArray n)) (haL : a ≠ L) (ha0 : h₀.get? a = none) (hna : ∀ p ∈ news, p.1 ≠ a)
    (h : ∀ h' tk' c, Fr h₀ L h' m → News h₀ L h' ((a, listOf vs.reverse.toArray c) :: news) → P (.done (.ret .none)) { heap := h', gens := gn, drawn := dr, toks := tk', os := os }) :
    wpAny (model prg w) A (ksk_tree a f false) P E { heap := h1, gens := gn, drawn := dr, toks := tk1, os := os } := by
  refine kat_keyed (s := { heap := h1, gens := gn, drawn := dr, toks := tk1, os := os }) F N ho haL ha0 hna hn (by omega) fun kS e1 h' F' N' l0 l1 => ?_
  refine katkeys (kz := kz) hl hcall l1 l0 (fun e h2 tk2 F2 N2 => ?_) vs 0 0 h' tk1 rfl (Nat.zero_le _) F' N'
  obtain ⟨fs, ht, hf, hfl⟩ := hkz.tups fun p hp => (N2 p (.tail _ (.tail _ hp))).1
  refine kat_kind ht (by omega) (T := .type "int") (fun v hv => ?_) (by rfl) ?_
  · obtain ⟨x, t, rfl⟩ := hf v hv
    exact Looks.of_pure rfl
  have hgo : kasGo vs.length (fun i j => decide (j < i)) (kas_sort vs.length) = some (List.range vs.length).reverse.toArray := by
    have : vs.length = 2 ∨ vs.length = 3 := by omega
    rcases this with e | e <;> rw [e]
    · exact kasGo_two
    · exact kasGo_three
  refine kasGo_wp (fun i j C hi hj hC => ?_) _ hgo ?_
  · obtain ⟨l1, us1, c1, x1, r1, e1, m1, i1, p1⟩ := hkz.at_ i (by omega)
    obtain ⟨l2, us2, c2, x2, r2, e2, m2, i2, p2⟩ := hkz.at_ j (by omega)
    have g1 : (katRev false kz).getD i Value.none = .ref l1 := by
      show kz.getD i _ = _
      rw [List.getD_eq_getElem?_getD, e1]; rfl
    have g2 : (katRev false kz).getD j Value.none = .ref l2 := by
      show kz.getD j _ = _
      rw [List.getD_eq_getElem?_getD, e2]; rfl
    unfold kas_ask
    rw [g1, g2]
    refine kat_lt (N2 _ (.tail _ (.tail _ m1))).1 rfl (N2 _ (.tail _ (.tail _ m2))).1 rfl ?_
    have hd := hdesc i j hi hj
    rw [p1, p2] at hd
    rw [List.size_toArray, List.size_toArray]
    refine katlex i1 i2 0 ?_
    rw [hd]; exact hC
  · have hka : @Ne Nat kS a := Nat.ne_of_gt l0
    refine KatFin.intro F2 N2 (.head (List.forall_mem_cons.mpr ⟨Ne.symm hka, fun q hq => Nat.ne_of_lt (l1 q hq)⟩)) fun h4 c4 F4 N4 => ?_
    refine KasFin.intro F4 N4 (.tail hka (.head hna)) fun h5 c5 F5 N5 => ?_
    refine h h5 tk2 c5 F5 (fun p hp => ?_)
    have e : (katRev false (((List.range vs.length).reverse.toArray).toList.map fun i => (katRev false vs).getD i Value.none)) = vs.reverse := by
      show ((List.range vs.length).reverse.map fun i => vs.getD i Value.none) = vs.reverse
      rw [List.map_reverse]
      congr 1
      refine List.ext_getElem (by simp) fun k h1 h2 => ?_
      simp only [List.getElem_map, List.getElem_range, List.getD_eq_getElem?_getD]
      rw [List.getElem?_eq_getElem h2]; rfl
    rw [e] at N5
    rcases List.mem_cons.mp hp with rfl | hp
    · exact N5 _ (.tail _ (.head _))
    · exact N5 _ (.tail _ (.tail _ hp))
end
section
variable {w : World} {A : Around} {s : Shared} {E : Value → Shared → Prop} {h₀ : Heap} {L a : Addr} {m : Str → Option Value} {news : List (Addr × Obj)}
theorem sort_end1 {gn : Array GenState} {dr : Drawn} {os : OsState} {h1 : Heap} {tk1 : Nat} {vs ks : List Value} {kS e e1 : Nat} {P : PySem.Fin → Shared → Prop} (hl : ks.length = vs.length) (h2 : vs.length < 2)
    (F : Fr h₀ L h1 m) (N : News h₀ L h1 ((kS, seqObj "list" ks.toArray e) :: (a, seqObj "list" #[] e1) :: news)) (hka : a < kS) (hk1 : ∀ q ∈ news, q.1 < kS) (hna : ∀ p ∈ news, p.1 ≠ a)
    (h : ∀ h' tk' c, Fr h₀ L h' m → News h₀ L h' ((a, listOf vs.toArray c) :: news) → P (.done (.ret .none)) { heap := h', gens := gn, drawn := dr, toks := tk', os := os }) :
    wpAny (model prg w) A (ksk_end a false vs.toArray e1 (.ref kS) ks.toArray) P E { heap := h1, gens := gn, drawn := dr, toks := tk1, os := os } := by
  have hn2 : vs.toArray.size < 2 := by rw [List.size_toArray]; exact h2
  have ne : @Ne Nat kS a := Nat.ne_of_gt hka
  unfold ksk_end
  dsimp only
  rw [if_neg (by decide), if_pos hn2, if_pos hn2, if_neg (by decide)]
  refine wpAny_bind (wpAny_pure ?_)
  refine wpAny_bind (wpAny_pure ?_)
  dsimp only
  refine kat_tail (h₀ := h₀) (L := L) (m := m) (ks := ks) (e := e) (out := vs) ?_ (by omega) (by omega) rfl ?_
  · show ((ks.toArray.zip vs.toArray).map (·.2)) = vs.toArray
    apply Array.toList_inj.mp
    simp [List.map_snd_zip, hl]
  · refine KatFin.intro F N (.head (List.forall_mem_cons.mpr ⟨Ne.symm ne, fun q hq => Nat.ne_of_lt (hk1 q hq)⟩)) fun h4 c4 F4 N4 => ?_
    refine KasFin.intro F4 N4 (.tail ne (.head hna)) fun h5 c5 F5 N5 => ?_
    exact h h5 tk1 c5 F5 (news_sub N5 fun p hp => .tail _ hp)
theorem sort_small {gn : Array GenState} {dr : Drawn} {os : OsState} {h1 : Heap} {tk1 : Nat} {vs : List Value} {f : Value} {n : Nat} {P : PySem.Fin → Shared → Prop} (hn : vs.length < 2)
    (hcall : ∀ v ∈ vs, ∃ k, KeyCall w A h₀ L m news gn dr os f v k)
    (F : Fr h₀ L h1 m) (N : News h₀ L h1 news) (ho : h1.get? a = some (seqObj "list" vs.toArray n)) (haL : a ≠ L) (ha0 : h₀.get? a = none) (hna : ∀ p ∈ news, p.1 ≠ a)
    (h : ∀ h' tk' c, Fr h₀ L h' m → News h₀ L h' ((a, listOf vs.toArray c) :: news) → P (.done (.ret .none)) { heap := h', gens := gn, drawn := dr, toks := tk', os := os }) :
    wpAny (model prg w) A (ksk_tree a f false) P E { heap := h1, gens := gn, drawn := dr, toks := tk1, os := os } := by
  have ha : a < h1.objs.size := Heap.lt_size ho
  have s1 := Heap.SameBut.update h1 a (Obj.mapSeq fun _ => (#[] : Array Value))
  obtain ⟨e1, ho1⟩ : ∃ e1, (h1.update a (Obj.mapSeq fun _ => (#[] : Array Value))).get? a = some (seqObj "list" #[] e1) := ⟨_, get?_update_seq ho fun _ => #[]⟩
  have F1 := kas_fr F s1 haL ha0
  have N1 := kas_news N s1 hna
  have N1' : News h₀ L (h1.update a (Obj.mapSeq fun _ => (#[] : Array Value))) ((a, seqObj "list" #[] e1) :: news) := fun p hp => by
    rcases List.mem_cons.mp hp with rfl | hp
    · exact ⟨ho1, haL, ha0⟩
    · exact N1 p hp
  have hsz : (h1.update a (Obj.mapSeq fun _ => (#[] : Array Value))).objs.size = h1.objs.size := Heap.size_update ..
  unfold ksk_tree
  refine wpAny_bind (listItems_at ho rfl ?_)
  refine wpAny_bind (listUpdate_at ho rfl ?_ (by rw [List.size_toArray, sizeLine_eq]; omega) (Nat.zero_le _))
  refine wpAny_bind (seqEpoch_at ho1 rfl ?_)
  refine wpAny_bind (wpAny_newTuple ?_ (by show vs.length ≤ _; rw [sizeLine_eq]; omega))
  refine wpAny_bind (wpAny_newList ?_ (Nat.zero_le _))
  refine wpAny_holding ?_
  dsimp only
  generalize hH : h1.update a (Obj.mapSeq fun _ => (#[] : Array Value)) = H1 at *
  have F2 := F1.push { cls := .type "tuple", data := .seq (vs.toArray.toList).toArray }
  have N2 := News.grown N1' fun b o e => Heap.get?_push_of_some { cls := .type "tuple", data := .seq (vs.toArray.toList).toArray } e
  have hs2 : (H1.push { cls := .type "tuple", data := .seq (vs.toArray.toList).toArray }).objs.size = h1.objs.size + 1 := by rw [Heap.size_push, hsz]
  generalize H1.push { cls := .type "tuple", data := .seq (vs.toArray.toList).toArray } = H2 at *
  have N3 := News.push F2 N2 ({ cls := .type "list", data := .seq ([] : List Value).toArray } : Obj) rfl
  have F3 := F2.push { cls := .type "list", data := .seq ([] : List Value).toArray }
  have hka : a < H2.objs.size := by rw [hs2]; exact Nat.lt_succ_of_lt ha
  have hk1 : ∀ q ∈ news, q.1 < H2.objs.size := fun q hq => by rw [hs2]; exact Nat.lt_succ_of_lt (Heap.lt_size (N q hq).1)
  generalize H2.push { cls := .type "list", data := .seq ([] : List Value).toArray } = H3 at *
  generalize H2.objs.size = kS at *
  unfold ksk_rest
  refine wpAny_bind (wpAny_rule ?_)
  rw [List.forIn_toArray]
  rcases vs with _ | ⟨v, _ | ⟨v2, vs⟩⟩
  ·
    rw [List.forIn_nil]
    refine wpAny_bind (wpAny_pure ?_)
    refine wpAny_bind (listItems_at (N3 _ (.head _)).1 rfl ?_)
    exact sort_end1 (ks := []) rfl hn F3 N3 hka hk1 hna h
  ·
    obtain ⟨k, hc⟩ := hcall v (.head _)
    rw [List.forIn_cons]
    refine wpAny_bind (wpAny_bind (wpAny_bind (wpAny_attempt ?_)))
    refine hc _ _ F3 (news_sub N3 fun p hp => .tail _ (.tail _ hp)) _ _ fun r h4 tk4 kp hr => ?_
    subst hr
    have F4 := fr_grow F3 kp
    have N4 := news_grow N3 kp
    have s5 := Heap.SameBut.update h4 kS (Obj.mapSeq (·.push r))
    have nk := N4 (kS, _) (.head _)
    obtain ⟨c5, hc5⟩ : ∃ c5, (h4.update kS (Obj.mapSeq (·.push r))).get? kS = some (seqObj "list" ([r] : List Value).toArray c5) := ⟨_, get?_update_seq nk.1 (·.push r)⟩
    refine wpAny_bind (listUpdate_at nk.1 rfl ?_ (Nat.zero_le _) (by show (1 : Nat) ≤ _; rw [sizeLine_eq]; omega))
    refine wpAny_pure ?_
    show wpAny (model prg w) A (forIn [] PUnit.unit _) _ _ _
    rw [List.forIn_nil]
    refine wpAny_pure ?_
    have F5 := kas_fr F4 s5 nk.2.1 nk.2.2
    have N5 : News h₀ L (h4.update kS (Obj.mapSeq (·.push r))) ((kS, seqObj "list" ([r] : List Value).toArray c5) :: (a, seqObj "list" #[] e1) :: news) := fun p hp => by
      rcases List.mem_cons.mp hp with rfl | hp
      · exact ⟨hc5, nk.2⟩
      · refine kas_news (fun p hp => N4 p (.tail _ hp)) s5 ?_ p hp
        exact List.forall_mem_cons.mpr ⟨Nat.ne_of_lt hka, fun q hq => Nat.ne_of_lt (hk1 q hq)⟩
    refine wpAny_bind (listItems_at (N5 _ (.head _)).1 rfl ?_)
    exact sort_end1 (ks := [r]) rfl hn F5 N5 hka hk1 hna h
  · exact absurd hn (by rw [List.length_cons, List.length_cons]; omega)
end
/-- the pairs of a table from node numbers to tuples of a ledger -/
noncomputable def KvsIn (tl : List (Addr × Obj)) (ns : List Nat) (ps : Nat → List Int) (kvs : List (Int × Value)) : Prop :=
  kvs.map (·.1) = ns.map Int.ofNat ∧ ∀ i, i < ns.length → ∃ k l us c, kvs[i]? = some (k, .ref l) ∧ (l, tupO us c) ∈ tl ∧ IntsAre us (ps i)
theorem KvsIn.snoc {tl : List (Addr × Obj)} {ns : List Nat} {ps : Nat → List Int} {kvs : List (Int × Value)} (h : KvsIn tl ns ps kvs) {j : Nat} (hj : j ∉ ns) {l : Addr} {us : List Value} {c : Nat} (hi : IntsAre us (ps ns.length)) :
    KvsIn ((l, tupO us c) :: tl) (ns ++ [j]) ps (stored kvs (j : Int) (.ref l)) := by
  have hl : kvs.length = ns.length := by simpa using congrArg List.length h.1
  have e : stored kvs (j : Int) (.ref l) = kvs ++ [((j : Int), .ref l)] := by
    refine PyProof.Rows.stored_absent (PyProof.Rows.valueAt_none_of_not_mem fun hm => ?_) _
    rw [h.1] at hm
    obtain ⟨k, hk, e⟩ := List.mem_map.mp hm
    have : k = j := Int.ofNat.inj e
    exact hj (this ▸ hk)
  rw [e]
  refine ⟨by rw [List.map_append, List.map_append, h.1]; rfl, fun i hi' => ?_⟩
  rw [List.length_append] at hi'
  by_cases h2 : i < ns.length
  · obtain ⟨k, l', us', c', e1, e2, e3⟩ := h.2 i h2
    exact ⟨k, l', us', c', by rw [List.getElem?_append_left (by omega)]; exact e1, .tail _ e2, e3⟩
  · have : i = ns.length := by simp only [List.length_cons, List.length_nil] at hi'; omega
    subst this
    exact ⟨j, l, us, c, by rw [List.getElem?_append_right (by omega), hl, Nat.sub_self]; rfl, .head _, hi⟩
theorem nodup_take {l : List Nat} {i j : Nat} (hnd : l.Nodup) (h : l[i]? = some j) : j ∉ l.take i := by
  intro hm
  rw [← List.take_append_drop i l, drop_get h, List.nodup_append] at hnd
  exact hnd.2.2 _ hm _ (.head _) rfl
section
variable {prog : Program} {w : World} {A : Around} {E : Value → Shared → Prop} {env : Env}
theorem DictComp_tup {s : Shared} {vx iter : Expr} {x : Str} {px qx : Pos} {scope : Scope} {cl : List (Str × Addr)} {pos : Pos} {Q : Value → Shared → Prop} {ns : List Nat} {ps : Nat → List Int}
    (hh : A.handled = none) (hclos : closureFor scope env = pure cl) (hcell : ∀ y ∈ scope.names, y.2 ≠ .cell) (hkind : scope.kind = .function)
    (hnames : ∀ y ∈ scope.names, y.2 = .local → scope.names.lookup y.1 = some .local) (hx : scope.names.lookup x = some .local) (hxd : (x == ("__debug__" : Str)) = false) (hnd : ns.Nodup) (hn1 : ns.length ≤ 1000)
    (h : wpAny (model prog w) A (eval iter env) (fun xv s₁ => ∃ ax us, xv = .ref ax ∧ s₁.heap.IsList ax (List.toArray us) ∧ IntsAre us (ns.map Int.ofNat) ∧
      (∀ C i j t s₂ m₂ (E' : Value → Shared → Prop), s₁.heap.objs.size ≤ C → ns[i]? = some j → s₂.heap.Ns C m₂ → m₂ x = some (.int (j : Int) t) → Kp s₁.heap s₂.heap →
        wpAny (model prog w) A (eval vx (compEnvC scope cl C env)) (fun y s₃ => (∃ l us c, y = .ref l ∧ s₃.heap.get? l = some (tupO us c) ∧ s₂.heap.get? l = none ∧ IntsAre us (ps i)) ∧ Keeps s₂ s₃) E' s₂) ∧
      (∀ D o h' tk kvs tl, s₁.heap.get? D = none → s₁.heap.objs.size ≤ D → h'.get? D = some o → o.IsDictOf (intKind prog w) kvs → KvsIn tl ns ps kvs → (∀ p ∈ tl, h'.get? p.1 = some p.2 ∧ s₁.heap.get? p.1 = none ∧ p.1 ≠ D) → Kp s₁.heap h' → Q (.ref D) { s₁ with heap := h', toks := tk })) E s)
    (hs : ∀ x, foldedSetIterable iter env x = pure x := by intro _; rfl) :
    wpAny (model prog w) A (eval (.DictComp (.Name x qx) vx [⟨.Name x px, iter, [], 0⟩] scope pos) env) Q E s := by
  rw [arm_eval_DictComp]
  refine wpAny_comprehension_free (use := none) rfl hs hclos hkind hnames (wpAny_mono h (fun xv s₁ h₁ => ?_) fun _ _ e => e)
  obtain ⟨ax, us, rfl, hl, hus, hval, hQ⟩ := h₁
  have hul : us.length = ns.length := ids_size hus
  refine wpAny_pyIter_list hl (wpAny_newObj_type (hd := by size_fits) (wpAny_newFunctionEnv hcell (by intro y hy; simp at hy) (fun h₁ hns₁ hsb₁ => ?_) hkind))
  dsimp only at hns₁ hsb₁ ⊢
  obtain ⟨ol, hol, hol'⟩ := id hl
  generalize hH1 : s₁.heap.push { cls := .type "list_iterator", data := .fields #[.ref ax, .int 0 0] } = H1 at hns₁ hsb₁ ⊢
  have hD : H1.objs.size = s₁.heap.objs.size + 1 := by rw [← hH1, Heap.size_push]
  have hnew : (H1.push { cls := .type "dict", dict := none, data := .dict #[] }).DictOf (intKind prog w) H1.objs.size [] := Heap.DictOf.new H1
  generalize hH2 : H1.push { cls := .type "dict", dict := none, data := .dict #[] } = H2 at hns₁ hsb₁ hnew ⊢
  have hC : H2.objs.size = s₁.heap.objs.size + 2 := by rw [← hH2, Heap.size_push, hD]
  generalize hIe : s₁.heap.objs.size = I at *
  generalize hDe : H1.objs.size = D at *
  generalize hCe : H2.objs.size = C at *
  have hDI : D ≠ I := by rw [hD]; exact Nat.succ_ne_self _
  have hDC : D ≠ C := by rw [hD, hC]; exact Nat.ne_of_lt (Nat.lt_succ_self _)
  have hIC : I ≠ C := by rw [hC]; exact Nat.ne_of_lt (Nat.lt_succ_of_lt (Nat.lt_succ_self _))
  have hIleC : I ≤ C := by rw [hC]; exact Nat.le_add_right _ _
  have hIleC' : s₁.heap.objs.size ≤ C := hIe ▸ hIleC
  have below : ∀ {b : Addr} {o : Obj}, s₁.heap.get? b = some o → b ≠ C ∧ b ≠ I ∧ b ≠ D := fun e => by
    have hb := Heap.lt_size e
    rw [hIe] at hb
    exact ⟨Nat.ne_of_lt (Nat.lt_of_lt_of_le hb hIleC), Nat.ne_of_lt hb, by rw [hD]; exact Nat.ne_of_lt (Nat.lt_succ_of_lt hb)⟩
  have old : Kp s₁.heap h₁ := fun b o e => hsb₁.extBut b o (below e).1 (Heap.get?_push_of_some _ (hH2 ▸ Heap.get?_push_of_some _ (hH1 ▸ Heap.get?_push_of_some _ e)))
  have hit : h₁.IsListIter I ax 0 := ⟨_, hsb₁.extBut _ _ hIC (Heap.get?_push_of_some _ (hH2 ▸ Heap.get?_push_of_some _ (hH1 ▸ hIe ▸ Heap.get?_push_size _ rfl))), rfl, rfl⟩
  have hacc : h₁.DictOf (intKind prog w) D [] := hnew.at fun o e => hsb₁.extBut _ _ hDC (Heap.get?_push_of_some _ e)
  have hnewD : s₁.heap.get? D = none := by
    cases e : s₁.heap.get? D with
    | none => rfl
    | some o' => exact absurd rfl (below e).2.2
  refine codeAny_compStart_dict ?_ (wpAny_pyIter_listiter hit ?_) <;>
  · show codeAny _ A (.compLoop _ 0 (.ref I) (.ref D) (compEnvC scope cl C env)) _ _
    refine codeAny_compLoop_testsD
      (fun k s' => ∃ h' tk m' kvs tl i, s' = { s₁ with heap := h', toks := tk } ∧ i ≤ ns.length ∧ k = ns.length - i ∧ h'.IsListIter I ax i ∧ h'.DictOf (intKind prog w) D kvs ∧ h'.Ns C m' ∧ KvsIn tl (ns.take i) ps kvs ∧
        (∀ p ∈ tl, h'.get? p.1 = some p.2 ∧ s₁.heap.get? p.1 = none ∧ p.1 ≠ D ∧ p.1 ≠ C ∧ p.1 ≠ I) ∧ Kp s₁.heap h') ?_ ns.length
      ⟨h₁, _, _, [], [], 0, rfl, Nat.zero_le _, rfl, hit, hacc, hns₁, ⟨rfl, fun i hi => absurd hi (Nat.not_lt_zero _)⟩, (fun _ h => nomatch h), old⟩ (fun _ => rfl)
    rintro k s' ⟨H, tk, m', kvs, tl, i, rfl, hi, rfl, hit', hacc', hn', hK, htl, hk⟩
    have hl' : H.IsList ax (List.toArray us) := hl.at fun o e => hk _ _ e
    by_cases hlt : i < ns.length
    · obtain ⟨j, hj⟩ : ∃ j, ns[i]? = some j := ⟨_, List.getElem?_eq_getElem hlt⟩
      have hvu : ∃ v, us[i]? = some v := ⟨_, List.getElem?_eq_getElem (by omega)⟩
      obtain ⟨v, hv⟩ := hvu
      obtain ⟨j', t, hj', rfl⟩ := ints_getN hus hv
      have : j' = j := by rw [hj] at hj'; exact (Option.some.inj hj').symm
      subst this
      have hv' : (List.toArray us)[i]? = some (.int (j' : Int) t) := by simpa using hv
      refine wpAny_pyNext_list_item hit' hl' hv' fun h₂ hit₂ hs₂ => ?_
      refine wpAny_assign_Name (wpAny_storeName_local (lookup_relabel_local hx) (hn'.sameBut hs₂ (Ne.symm hIC)) (fun h₃ hn₃ hs₃ => ?_) (by simp [compEnvC, relabel, hkind]))
      have kp₃ : Kp s₁.heap h₃ := fun b o e => hs₃.extBut b o (below e).1 (hs₂.extBut b o (below e).2.1 (hk b o e))
      refine wpAny_tests_nil ?_
      simp only [if_true]
      refine wpAny_Name (wpAny_loadName_local (show (relabel scope env).kind = .function from hkind) (lookup_relabel_local hx) hn₃ (v := .int (j' : Int) t) (if_pos rfl) ?_) hxd
      refine wpAny_mono (hval C i j' t _ _ _ hIleC hj hn₃ (by simp) kp₃) (fun y s₄ h₄ => ?_) fun _ _ e => e
      obtain ⟨⟨l, us', c, rfl, hl4, hl3, hui⟩, h₄, tk₄, rfl, hk₄⟩ := h₄
      have kp₄ : Kp s₁.heap h₄ := fun b o e => hk₄ b o (kp₃ b o e)
      have hit₄ : h₄.IsListIter I ax (i + 1) := (hit₂.extBut hs₃.extBut hIC).at fun o e => hk₄ _ o e
      have hacc₄ : h₄.DictOf (intKind prog w) D kvs := hacc'.at fun o e => hk₄ _ _ (hs₃.extBut _ _ hDC (hs₂.extBut _ _ hDI e))
      have hn₄ := hn₃.keeps hk₄
      have nlD : l ≠ D := by
        rintro rfl
        obtain ⟨o, e, _⟩ := Heap.dictOf_iff.mp hacc'
        have e2 := hs₃.extBut _ _ hDC (hs₂.extBut _ _ hDI e)
        have hl3' : h₃.get? l = none := hl3
        rw [e2] at hl3'; cases hl3'
      have nlC : l ≠ C := by
        rintro rfl
        obtain ⟨o, _, _, e, _⟩ := hn₃
        have hl3' : h₃.get? l = none := hl3
        rw [show h₃.get? l = some o from e] at hl3'; cases hl3'
      have nlI : l ≠ I := by
        rintro rfl
        obtain ⟨o, e, _⟩ := (hit₂.extBut hs₃.extBut hIC)
        have hl3' : h₃.get? l = none := hl3
        rw [show h₃.get? l = some o from e] at hl3'; cases hl3'
      have nl1 : s₁.heap.get? l = none := by
        cases e : s₁.heap.get? l with
        | none => rfl
        | some o =>
          have hl3' : h₃.get? l = none := hl3
          rw [kp₃ _ _ e] at hl3'; cases hl3'
      have hkl : kvs.length ≤ sizeLine := by
        have e1 := congrArg List.length hK.1
        simp only [List.length_map, List.length_take] at e1
        rw [sizeLine_eq]; omega
      refine wpAny_dictSet_pairs (hsz := hkl) (intKind_is prog w (j' : Int) t) hacc₄ fun h₅ hl₅ hs₅ => ?_
      have hti : (ns.take i).length = i := by rw [List.length_take]; omega
      have hnm : j' ∉ ns.take i := nodup_take hnd hj
      have hK' := hK.snoc (l := l) (us := us') (c := c) hnm (by rw [hti]; exact hui)
      have hts : ns.take i ++ [j'] = ns.take (i + 1) := by rw [List.take_add_one, hj]; rfl
      rw [hts] at hK'
      refine ⟨ns.length - (i + 1), by omega, h₅, _, _, _, (l, tupO us' c) :: tl, i + 1, rfl, hlt, rfl, hit₄.at fun o e => hs₅.extBut _ _ (Ne.symm hDI) e, hl₅, hn₄.sameBut hs₅ (Ne.symm hDC), hK', fun p hp => ?_, fun b o e => hs₅.extBut b o (below e).2.2 (kp₄ b o e)⟩
      rcases List.mem_cons.mp hp with rfl | hp
      · exact ⟨hs₅.extBut _ _ nlD hl4, nl1, nlD, nlC, nlI⟩
      · obtain ⟨a1, a2, a3, a4, a5⟩ := htl p hp
        exact ⟨hs₅.extBut _ _ a3 (hk₄ _ _ (hs₃.extBut _ _ a4 (hs₂.extBut _ _ a5 a1))), a2, a3, a4, a5⟩
    · have hin : i = ns.length := by omega
      refine wpAny_pyNext_list_end hh hit' hl' (by simp; omega) fun h₂ he₂ => ?_
      have hn₂ := hn'.extBut he₂ (Ne.symm hIC)
      obtain ⟨o, ho, hod⟩ := Heap.dictOf_iff.mp hacc'
      refine ⟨_, hn₂, fun h₃ hs₃ => hQ D o h₃ tk kvs tl hnewD (by rw [hD]; exact Nat.le_succ _) (hs₃.extBut _ _ hDC (he₂ _ _ hDI ho)) hod (by rw [hin, List.take_length] at hK; exact hK) (fun p hp => ?_) fun b o e => hs₃.extBut b o (below e).1 (he₂ b o (below e).2.1 (hk b o e))⟩
      obtain ⟨a1, a2, a3, a4, a5⟩ := htl p hp
      exact ⟨hs₃.extBut _ _ a4 (he₂ _ _ a5 a1), a2, a3⟩
end
section
variable {w : World} {p : Program} {loose : List Str} {mean : ExcName → Option Value} {mg mb : Str → Option Value} {A : Around} {s : Shared} {E : Value → Shared → Prop} {Q : Value → Shared → Prop}
variable {f cd : Addr} {st : Stmt} {qual : Str} {pm : Value}
variable {name : Str} {params : Arguments} {body : List Stmt} {dl : List Expr} {ret : Option Expr} {tps : List TypeParam} {scope : Scope} {ts : Option Scope} {bd : Str} {pos : Pos}
theorem hid_none {h : Heap} {hid : List (Addr × Obj)} {b : Addr} (e : h.get? b = none) : (hideAll h (hid.map (·.1))).get? b = none := by
  cases q : (hideAll h (hid.map (·.1))).get? b with
  | none => rfl
  | some o => have := of_hideAll _ q; rw [e] at this; cases this
/-- a call of a def of the top's, some objects hidden from the base and laid in the ledger -/
theorem enterM {hid : List (Addr × Obj)} (B : Bs w p loose mean mg mb (hideAll s.heap (hid.map (·.1)))) (hhid : ∀ p ∈ hid, s.heap.get? p.1 = some p.2) {vs : List Value} {binds : List (Str × Value)}
    (ho : (K w.params).lookup f = some (fnO st qual pm cd)) (hst : st = .FunctionDef name params body dl ret tps scope ts bd pos)
    (hcd : codeIn (K w.params) (.ref cd) qual = true) (hroom : A.depth < recursionLimit)
    (hbind : bindArgs (fnOf name qual params body scope .none .none .none pm none (.ref cd) .none) ⟨vs, []⟩ = pure binds) (hloc : (binds.all fun x => decide (scope.names.lookup x.1 = some .local)) = true)
    (h : ∀ L h₁ tk, L = s.heap.objs.size → Fr (hideAll s.heap (hid.map (·.1))) L h₁ (fun y => binds.reverse.lookup y) → News (hideAll s.heap (hid.map (·.1))) L h₁ hid → (∀ p ∈ hid, p.1 < L) →
      wpAny (model prg w) (A.deeper (envOf qual scope L f (.ref cd))) (execs body (envOf qual scope L f (.ref cd)))
        (fun fl s' => Q (match fl with | .ret v => v | _ => .none) s') noE { s with heap := h₁, toks := tk })
    (hco : scope.isCoroutine = false := by rfl) (hgen : scope.isGenerator = false := by rfl) (hk : scope.kind = .function := by rfl)
    (hcell : ∀ x ∈ scope.names, x.2 ≠ .cell := by decide) : wpAny (model prg w) A (call (.ref f) vs) Q E s := by
  subst hst
  have up : Kp (hideAll s.heap (hid.map (·.1))) s.heap := fun b o e => of_hideAll _ e
  refine wpAny_call ?_
  refine codeAny_call_def (fd := fnOf name qual params body scope .none .none .none pm none (.ref cd) .none) (body := body) (binds := binds) hroom (up _ _ (B.X _ _ ho)) rfl (B.T.nolimit.keeps up) (codeRec_of (B.X.keeps up) hcd) rfl (BindsTo.of_eq hbind) hcell (locs hloc) (fun h₁ hns hk₁ => ?_) hco hgen hk
  refine wpAny_mono (h _ h₁ _ rfl ⟨hns, fun b o e => hk₁ b o (up b o e), Nat.le_of_eq (hideAll_size _ _)⟩ (fun p hp => ⟨hk₁ _ _ (hhid p hp), Nat.ne_of_lt (Heap.lt_size (hhid p hp)), hideAll_none _ (List.mem_map_of_mem hp)⟩) fun p hp => Heap.lt_size (hhid p hp)) (fun fl s' q => q) fun e s' q => q.elim
theorem enterC {hid : List (Addr × Obj)} (B : Bs w p loose mean mg mb (hideAll s.heap (hid.map (·.1)))) (hhid : ∀ p ∈ hid, s.heap.get? p.1 = some p.2) {vs : List Value} {binds : List (Str × Value)}
    (ho : (K w.params).lookup f = some (fnO st qual pm cd)) (hst : st = .FunctionDef name params body dl ret tps scope ts bd pos)
    (hcd : codeIn (K w.params) (.ref cd) qual = true) (hroom : A.depth < recursionLimit)
    (hbind : bindArgs (fnOf name qual params body scope .none .none .none pm none (.ref cd) .none) ⟨vs, []⟩ = pure binds)
    (hkind : (binds.all fun y => scope.names.lookup y.1 == some .local || scope.names.lookup y.1 == some .cell) = true) (hnd : ((cellsFrom 0 scope.names []).map (·.1)).Nodup)
    (h : ∀ L h₁ tk cells, L = s.heap.objs.size → Fr (hideAll s.heap (hid.map (·.1))) L h₁ (bindL (envOfC qual scope L f (.ref cd)).kindOf binds fun _ => none) → News (hideAll s.heap (hid.map (·.1))) L h₁ (cells ++ hid) →
      CellsAre (bindC (envOfC qual scope L f (.ref cd)).kindOf binds fun _ => none) (cellsFrom (L + 1) scope.names []) cells → (∀ p ∈ hid, p.1 < L) →
      wpAny (model prg w) (A.deeper (envOfC qual scope L f (.ref cd))) (execs body (envOfC qual scope L f (.ref cd)))
        (fun fl s' => Q (match fl with | .ret v => v | _ => .none) s') noE { s with heap := h₁, toks := tk })
    (hco : scope.isCoroutine = false := by rfl) (hgen : scope.isGenerator = false := by rfl) (hk : scope.kind = .function := by rfl) : wpAny (model prg w) A (call (.ref f) vs) Q E s := by
  subst hst
  have up : Kp (hideAll s.heap (hid.map (·.1))) s.heap := fun b o e => of_hideAll _ e
  refine wpAny_call ?_
  refine codeAny_call_function (fd := fnOf name qual params body scope .none .none .none pm none (.ref cd) .none) hroom (up _ _ (B.X _ _ ho)) rfl hco hgen rfl (codeRec_of (B.X.keeps up) hcd) (BindsTo.of_eq hbind _ _ _ _ ?_)
  refine wpAny_newFunctionEnv_cells hk (kindsX hkind _) fun env' he s' x => ?_
  subst he
  refine ⟨(B.T.nolimit.keeps up).keeps x.toInCall.keep, codeAny_func ?_⟩
  obtain ⟨h₁, tk, rfl, _⟩ := x.done
  have hk₁ := x.toInCall.keep
  obtain ⟨cells, NC, Y⟩ := Cl.news (h₀ := s.heap) (Nat.le_refl _) fun n c hm => ⟨x.cell n c (lookup_of_mem_nodup (cellsFrom_names scope.names 0 (s.heap.objs.size + 1) [] [] rfl ▸ hnd) hm), x.above n c hm⟩
  refine wpAny_mono (h _ h₁ tk cells rfl ⟨x.toInCall.ns, fun b o e => hk₁ b o (up b o e), Nat.le_of_eq (hideAll_size _ _)⟩ (fun p hp => ?_) Y fun p hp => Heap.lt_size (hhid p hp)) (fun fl s' q => q) fun e s' q => q.elim
  rcases List.mem_append.mp hp with hp | hp
  · exact ⟨(NC p hp).1, (NC p hp).2.1, hid_none (NC p hp).2.2⟩
  · exact ⟨hk₁ _ _ (hhid p hp), Nat.ne_of_lt (Heap.lt_size (hhid p hp)), hideAll_none _ (List.mem_map_of_mem hp)⟩
end
/-- the lambda of in_order's text -/
noncomputable def lamE : PySem.Expr := match bodyOf (stmtAt 9) with
  | [_, .Return (some (.Call _ _ [k] _)) _] => k.value
  | _ => .Name (Str.ofString "x") ⟨0, 0, 0, 0⟩
noncomputable def lamP : PySem.Expr → Arguments
  | .Lambda a _ _ _ => a
  | _ => { posonlyargs := [], args := [], vararg := none, kwonlyargs := [], kw_defaults := [], kwarg := none, defaults := [] }
noncomputable def lamB : PySem.Expr → PySem.Expr
  | .Lambda _ b _ _ => b
  | e => e
noncomputable def lamS : PySem.Expr → Scope
  | .Lambda _ _ c _ => c
  | _ => { kind := .function, names := [], isGenerator := false, isCoroutine := false, more := [] }
noncomputable def lamQ : Str := (Str.ofString "in_order" ++ ".<locals>.") ++ "<lambda>"
section
variable {w : World} {p : Program} {loose : List Str} {mean : ExcName → Option Value} {mg mb : Str → Option Value} {A : Around} {s : Shared}
theorem lam_c (B : Bs w p loose mean mg mb s.heap) (hd : Rm A 1) {f c' c D : Addr} {pmv ctv : Value} {oc od : Obj} {kvs : List (Int × Value)} {y : Value} {j : Int} {t : Tok}
    (hf : s.heap.get? f = some (kla_obj "<lambda>" lamQ (lamP lamE) (lamB lamE) (lamS lamE) [(Str.ofString "known", c)] pmv c' ctv)) (hcode : s.heap.CodeRec (.ref c') lamQ) (hc : s.heap.get? c = some oc) (hoc : oc.data = .cell (some (.ref D)))
    (hD : s.heap.get? D = some od) (hod : od.IsDictOf (intKind prg w) kvs) (hv : valueAt kvs j = some y) :
    RO w A s (call (.ref f) [.int j t]) fun v _ => v = y := by
  obtain ⟨hp0, gn, dr, tk0, os⟩ := s
  dsimp only at B hf hcode hc hD
  intro Q E ret
  dsimp only at ret
  refine wpAny_call (kla_callFunE hd.room hf rfl rfl rfl rfl hcode ?_)
  rw [show bindArgs (kla_fn "<lambda>" lamQ (lamP lamE) (lamB lamE) (lamS lamE) [(Str.ofString "known", c)] pmv (.ref c') ctv) { pos := [.int j t], kw := [] } = pure [(Str.ofString "node", .int j t)] from rfl]
  have hns : (lamS lamE).names = [(Str.ofString "node", .local), (Str.ofString "known", .free)] := rfl
  obtain ⟨q1, q2, q3, hB⟩ : ∃ q1 q2 q3, lamB lamE = .Subscript (.Name (Str.ofString "known") q1) (.Name (Str.ofString "node") q2) q3 := ⟨_, _, _, rfl⟩
  refine wpAny_pure (wpAny_newFunctionEnv (scope := lamS lamE) (by rw [hns]; decide) (by rw [hns]; intro y hy; rw [List.mem_singleton.mp hy]; rfl) (fun h₁ hns hsb => ⟨(B.T.nolimit).fresh _ hsb, ?_⟩) rfl)
  have hk₁ : Kp hp0 h₁ := fun b o e => hsb.extBut b o (Nat.ne_of_lt (Heap.lt_size e)) (Heap.get?_push_of_some _ e)
  refine kla_codeExpr ?_
  show wpAny (model prg w) _ (eval (lamB lamE) (envX lamQ (lamS lamE) hp0.objs.size f (.ref c') [(Str.ofString "known", c)])) (fun v s' => Q v s') _ _
  rw [hB]
  have hD₁ : h₁.DictOf (intKind prg w) D kvs := Heap.dictOf_iff.mpr ⟨od, hk₁ _ _ hD, hod⟩
  refine wpAny_Subscript_Name (T := "dict") slot_dict_getitem.lookup ?_
  refine wpAny_Name (wpAny_loadName_free rfl rfl rfl ⟨oc, hk₁ _ _ hc, hoc⟩ ?_)
  refine wpAny_Name (wpAny_loadName_local rfl rfl hns rfl ?_)
  refine ⟨hD₁.typeIs, wpAny_getItem_of (intKind_is _ _ j t) hD₁.mapOf hv ?_⟩
  exact ret _ _ _ hk₁ rfl
end
section
variable {w : World} {A : Around} {E : Value → Shared → Prop} {G : Heap} {L D f : Addr} {m : Str → Option Value} {news tl : List (Addr × Obj)} {gn : Array GenState} {dr : Drawn} {os : OsState}
theorem ints_of_kvs : ∀ {vs : List Value} {kvs : List (Int × Value)}, vs.length = kvs.length → (∀ (i : Nat) (v : Value), vs[i]? = some v → ∃ k x, kvs[i]? = some (k, x) ∧ (intKind prg w).is k v = true) → IntsAre vs (kvs.map (·.1))
  | [], [], _, _ => .nil
  | [], _ :: _, h, _ => by cases h
  | _ :: _, [], h, _ => by cases h
  | v :: vs, (k, x) :: kvs, hl, h => by
    obtain ⟨k', x', e, hk⟩ := h 0 v rfl
    obtain ⟨rfl, rfl⟩ : k = k' ∧ x = x' := by
      have := Option.some.inj e
      exact ⟨congrArg Prod.fst this, congrArg Prod.snd this⟩
    obtain ⟨t, rfl⟩ : ∃ t, v = .int k t := by
      cases v <;> simp [intKind, Value.isInt] at hk
      exact ⟨_, by rw [hk]⟩
    exact .cons k t (ints_of_kvs (by simpa using hl) fun i v hv => by simpa using h (i + 1) v (by simpa using hv))
theorem sorted_c {h : Heap} {tk : Nat} {od : Obj} {kvs : List (Int × Value)} {ns : List Nat} {ps : Nat → List Int} {Q : Value → Shared → Prop} (hA : A.handled = none) (F : Fr G L h m) (N : News G L h news) (hD : (D, od) ∈ news) (hod : od.IsDictOf (intKind prg w) kvs) (lo : (D == sysModules) = false)
    (hK : KvsIn tl ns ps kvs) (hsub : ∀ p ∈ tl, p ∈ news) (hn3 : ns.length ≤ 3) (hne : ∀ i, i < ns.length → ∃ x r, ps i = x :: r) (hdesc : ∀ i j, i < ns.length → j < ns.length → lexLt (ps i) (ps j) = decide (j < i))
    (hcall : ∀ (i : Nat) (j : Int) (t : Tok) (k : Value), kvs[i]? = some (j, k) → KeyCall w A.in1.in1 G L m news gn dr os (.ref f) (.int j t) k)
    (ret : ∀ B h' tk' c vs', Fr G L h' m → News G L h' ((B, listOf vs'.toArray c) :: news) → (∀ q ∈ news, q.1 < B) → h.get? B = none → IntsAre vs' (ns.reverse.map Int.ofNat) → Q (.ref B) { heap := h', gens := gn, drawn := dr, toks := tk', os := os }) :
    wpAny (model prg w) A (call (.builtin "sorted") [.ref D] [(Str.ofString "key", .ref f)]) Q E { heap := h, gens := gn, drawn := dr, toks := tk, os := os } := by
  have hkl : kvs.length = ns.length := by simpa using congrArg List.length hK.1
  refine call_function_entry_kw kind_sorted plain_sorted entry_sorted (ksk_s1 _ _) ?_
  unfold Builtin.«sorted»
  refine wpAny_bind (m := checkCount "sorted" 1 1 _) (wpAny_pure ?_)
  obtain ⟨ep, hat⟩ := (Heap.dictOf_iff.mpr ⟨od, (N _ hD).1, hod⟩ : h.DictOf (intKind prg w) D kvs).dictAt
  refine wpAny_bind (kdu_collect (A := A.in1) (kdl_dict (knd := intKind prg w) (kvs := kvs) (ep := ep) lo) hA hat (kdl_size (by omega)) fun h' tk' acc hk hacc => ?_)
  have hl : acc.toList.length = kvs.length := by rw [Array.length_toList]; exact hacc.1
  refine wpAny_bind (wpAny_newList ?_ (by rw [hl, sizeLine_eq]; omega))
  have hints : IntsAre acc.toList (kvs.map (·.1)) := ints_of_kvs hl fun i v e => hacc.2 i v (by rw [← Array.getElem?_toList]; exact e)
  have hB : h.get? h'.objs.size = none := by
    cases e : h.get? h'.objs.size with
    | none => rfl
    | some o => exact absurd (Heap.lt_size (hk _ _ e)) (Nat.lt_irrefl _)
  have F1 : Fr G L (h'.push (seqObj "list" acc.toList.toArray 0)) m := (fr_grow F hk).push _
  have N1 : News G L (h'.push (seqObj "list" acc.toList.toArray 0)) news := News.grown (news_grow N hk) fun b o e => Heap.get?_push_of_some _ e
  have hBL : @Ne Nat h'.objs.size L := Nat.ne_of_gt (fr_grow F hk).ns.lt
  have hBG : G.get? h'.objs.size = none := by
    cases e : G.get? h'.objs.size with
    | none => rfl
    | some o => exact absurd (Heap.lt_size (hk _ _ (F.keep _ _ e))) (Nat.lt_irrefl _)
  have hBn : ∀ q ∈ news, q.1 < h'.objs.size := fun q hq => Heap.lt_size (hk _ _ (N q hq).1)
  have hoB : (h'.push (seqObj "list" acc.toList.toArray 0)).get? h'.objs.size = some (seqObj "list" acc.toList.toArray 0) := Heap.get?_push_size _ rfl
  show wpAny (model prg w) A.in1 _ _ _ { heap := h'.push (seqObj "list" acc.toList.toArray 0), gens := gn, drawn := dr, toks := tk', os := os }
  generalize h'.push (seqObj "list" acc.toList.toArray 0) = h2 at F1 N1 hoB ⊢
  show wpAny (model prg w) A.in1 (holding [.ref h'.objs.size] (call (.builtin "list.sort") [.ref h'.objs.size] [(Str.ofString "key", .ref f)]) >>= _) _ _ _
  generalize h'.objs.size = B at hB hBL hBG hBn hoB ⊢
  refine wpAny_bind (wpAny_holding (wpAny_call_entry_kw PyProof.Rows.slot_list_sort ⟨_, hoB, rfl⟩ PyProof.Rows.entry_list_sort ?_ ?_))
  · rw [ksk_t1]
    by_cases h2' : 2 ≤ acc.toList.length
    · refine sort_desc (kz := kvs.map (·.2)) (ps := ps) h2' (by omega) trivial (by rw [List.length_map, hl]) (fun i v k hv hk' => ?_) ⟨fun i hi => ?_⟩ (fun i j hi hj => hdesc i j (by omega) (by omega)) F1 N1 hoB hBL hBG (fun q hq => Nat.ne_of_lt (hBn q hq)) fun h3 tk3 c F3 N3 => ?_
      · obtain ⟨⟨j, x⟩, hx, rfl⟩ : ∃ p, kvs[i]? = some p ∧ p.2 = k := by
          rw [List.getElem?_map] at hk'
          cases e : kvs[i]? with
          | none => rw [e] at hk'; cases hk'
          | some p => rw [e] at hk'; exact ⟨p, rfl, Option.some.inj hk'⟩
        obtain ⟨j', x', e, hkv⟩ := hacc.2 i v (by rw [← Array.getElem?_toList]; exact hv)
        rw [hx] at e
        obtain ⟨rfl, rfl⟩ : j = j' ∧ x = x' := ⟨congrArg Prod.fst (Option.some.inj e), congrArg Prod.snd (Option.some.inj e)⟩
        obtain ⟨t, rfl⟩ : ∃ t, v = .int j t := by
          cases v <;> simp [intKind, Value.isInt] at hkv
          exact ⟨_, by rw [hkv]⟩
        exact hcall i j t x hx
      · rw [List.length_map] at hi
        obtain ⟨k, l, us, c, e1, e2, e3⟩ := hK.2 i (by omega)
        obtain ⟨x, r, e4⟩ := hne i (by omega)
        exact ⟨l, us, c, x, r, by rw [List.getElem?_map, e1]; rfl, hsub _ e2, e4 ▸ e3, e4⟩
      · refine ⟨_, rfl, wpAny_pure ⟨_, rfl, ret B h3 tk3 c _ F3 N3 hBn hB ?_⟩⟩
        have := hints.reverse
        rw [hK.1] at this
        rw [List.map_reverse]; exact this
    · refine sort_small (by omega) (fun v hv => ?_) F1 N1 hoB hBL hBG (fun q hq => Nat.ne_of_lt (hBn q hq)) fun h3 tk3 c F3 N3 => ?_
      · obtain ⟨i, hi, rfl⟩ := List.getElem_of_mem hv
        obtain ⟨j, x, e, hkv⟩ := hacc.2 i acc.toList[i] (by rw [← Array.getElem?_toList]; exact List.getElem?_eq_getElem hi)
        generalize acc.toList[i] = v at hkv
        obtain ⟨t, rfl⟩ : ∃ t, v = .int j t := by
          cases v <;> simp [intKind, Value.isInt] at hkv
          exact ⟨_, by rw [hkv]⟩
        exact ⟨x, hcall i j t x e⟩
      · refine ⟨_, rfl, wpAny_pure ⟨_, rfl, ret B h3 tk3 c _ F3 N3 hBn hB ?_⟩⟩
        have hr : ns.reverse = ns := by
          have : ns.length < 2 := by omega
          match ns, this with
          | [], _ => rfl
          | [_], _ => rfl
        rw [hr, ← hK.1]
        exact hints
  · exact ksk_l1 _ _
end
noncomputable def lamPos : PySem.Expr → Pos
  | .Lambda _ _ _ p => p
  | _ => ⟨0, 0, 0, 0⟩
noncomputable def lamKey (c' : Addr) : Array Value := #[rawInt (lamPos lamE).line, rawInt (lamPos lamE).col, .ref c']
/-- the table of in_order's code: empty, or with the lambda's code -/
noncomputable def TabOk (h : Heap) (tab : Array Value) : Prop := h.get? 56 = some (tabObj tab) ∧ (tab = #[] ∨ ∃ c', tab = lamKey c' ∧ h.CodeRec (.ref c') lamQ)
/-- a read, but for the table -/
noncomputable def RO56 (w : World) (A : Around) (s : Shared) (t : Sem Value) (P : Value → Heap → Prop) : Prop :=
  ∀ (Q E : Value → Shared → Prop), (∀ v h' tk' tab, (∀ b o, b ≠ 56 → s.heap.get? b = some o → h'.get? b = some o) → TabOk h' tab → P v h' → Q v { s with heap := h', toks := tk' }) → wpAny (model prg w) A t Q E s
theorem inorder_end {w : World} {p : Program} {loose : List Str} {mean : ExcName → Option Value} {mg mb : Str → Option Value} {A : Around} {hp0 G h5 : Heap} {L D f cK c' : Addr} {m : Str → Option Value} {news tl : List (Addr × Obj)} {gn : Array GenState} {dr : Drawn} {os : OsState} {tk : Nat}
    {od oK : Obj} {pmv ctv : Value} {kvs : List (Int × Value)} {ns : List Nat} {ps : Nat → List Int} {Q E : Value → Shared → Prop} (B : Bs w p loose mean mg mb G) (hd : Rm A 3) (F : Fr G L h5 m) (N : News G L h5 news)
    (mf : (f, kla_obj "<lambda>" lamQ (lamP lamE) (lamB lamE) (lamS lamE) [(Str.ofString "known", cK)] pmv c' ctv) ∈ news) (mD : (D, od) ∈ news) (mK : (cK, oK) ∈ news) (m56 : ((56 : Nat), tabObj (lamKey c')) ∈ news) (hsub : ∀ p ∈ tl, p ∈ news)
    (hcode : ∀ h', Fr G L h' m → News G L h' news → h'.CodeRec (.ref c') lamQ) (hoK : oK.data = .cell (some (.ref D))) (hod : od.IsDictOf (intKind prg w) kvs) (lo : (D == sysModules) = false) (hnd : ns.Nodup)
    (hK : KvsIn tl ns ps kvs) (hn3 : ns.length ≤ 3) (hne : ∀ i, i < ns.length → ∃ x r, ps i = x :: r) (hdesc : ∀ i j, i < ns.length → j < ns.length → lexLt (ps i) (ps j) = decide (j < i))
    (dn : ∀ b o, b ≠ 56 → hp0.get? b = some o → G.get? b = some o)
    (ret : ∀ (v : Value) (h' : Heap) (tk' : Nat) (tab : Array Value), (∀ b o, b ≠ 56 → hp0.get? b = some o → h'.get? b = some o) → TabOk h' tab → NewIds hp0 h' v ns.reverse → Q v { heap := h', gens := gn, drawn := dr, toks := tk', os := os }) :
    wpAny (model prg w) A (call (.builtin "sorted") [.ref D] [(Str.ofString "key", .ref f)]) Q E { heap := h5, gens := gn, drawn := dr, toks := tk, os := os } := by
  have hkn : (kvs.map (·.1)).Nodup := by
    rw [hK.1]
    exact List.Pairwise.map _ (fun a b hab e => hab (Int.ofNat.inj e)) hnd
  refine sorted_c hd.handled F N mD hod lo hK hsub hn3 hne hdesc (fun i j t k hk h' tk' F' N' => ?_) fun b h' tk' c vs' F' N' hlt hb hi => ?_
  · exact lam_c (B.keeps F'.keep) ((hd.in1 (j := 2) (by decide)).in1 (j := 1) (by decide)) (N' _ mf).1 (hcode h' F' N') (N' _ mK).1 hoK (N' _ mD).1 hod (valueAt_of_get hkn hk)
  · have N2 := news_sub N' (l' := news) fun p hp => .tail _ hp
    refine ret _ h' tk' (lamKey c') (fun b o hb e => F'.keep _ _ (dn b o hb e)) ⟨(N2 _ m56).1, .inr ⟨c', rfl, hcode h' F' N2⟩⟩ ⟨b, rfl, ⟨vs', ⟨c, (N' _ (.head _)).1⟩, hi⟩, ?_⟩
    have hb56 : b ≠ 56 := by
      rintro rfl
      rw [(N _ m56).1] at hb; cases hb
    cases e : hp0.get? b with
    | none => rfl
    | some o => rw [F.keep _ _ (dn _ _ hb56 e)] at hb; cases hb
inductive NodesRes (h₁ : Heap) (gn : Array GenState) (dr : Drawn) (os : OsState) (ln : Addr) : Value → Shared → Prop
  | mk {tk : Nat} : NodesRes h₁ gn dr os ln (.ref ln) { heap := h₁, gens := gn, drawn := dr, toks := tk, os := os }
theorem rows_l : True := by
  (k_with "eval DictComp" => refine stop_of ?_)
  (k_with "call builtin:sorted" => refine stop_of ?_)
  (k_with "call ref" => with_reducible refine stop_ref [54] (by decide) ?_)
  trivial
section
variable {w : World} {p : Program} {loose : List Str} {mean : ExcName → Option Value} {mg mb : Str → Option Value} {A : Around} {s : Shared}
theorem in_order_c {tab : Array Value} (B : Bs w p loose mean mg mb (hideAll s.heap [56])) (h56 : TabOk s.heap tab) (hd : Rm A 6) {T dT R : Addr} {rs : List Row} (hT : TreeAt w.params (hideAll s.heap [56]) T dT R rs) {ln : Addr} {us : List Value} {ns : List Nat} {ps : Nat → List Int}
    (hl : LstAt (hideAll s.heap [56]) ln us) (hi : IntsAre us (ns.map Int.ofNat)) (hnd : ns.Nodup) (hn3 : ns.length ≤ 3) (hP : ∀ i j, ns[i]? = some j → Place rs j (ps i)) (hdesc : ∀ i j, i < ns.length → j < ns.length → lexLt (ps i) (ps j) = decide (j < i)) :
    RO56 w A s (call (.ref 59) [.ref T, .ref ln]) fun v h' => NewIds s.heap h' v ns.reverse := by
  refine fill0 ?_; k_fill; intro _
  obtain ⟨hp0, gn, dr, tk0, os⟩ := s
  dsimp only at B hT hl h56
  intro Q E ret
  dsimp only at ret
  obtain ⟨hA, dp, frs, gds, un⟩ := A; obtain rfl : hA = none := hd.handled
  refine enterC (hid := [(56, tabObj tab)]) B (List.forall_mem_cons.mpr ⟨h56.1, List.forall_mem_nil _⟩) (st := stmtAt 9) (f := 59) (binds := [(Str.ofString "tree", .ref T), (Str.ofString "nodes", .ref ln)]) (by k_is) rfl (by k_is) hd.room (by rfl) (by rfl) (by decide +kernel) ?_
  intro L h₁ tk cells hL F N Y hlt
  obtain ⟨t, n, hdT⟩ := hT.dict
  have hTi := hT.inst
  have X := B.X
  have T' := B.T
  have C := codeHd_of_K (c := 58) (P := 56) X (by kernel_rfl)
  k_cells Y
  simp only [List.cons_append, List.nil_append] at N
  k_lt hlt
  have up : Kp (hideAll hp0 [56]) hp0 := fun b o e => of_hideAll _ e
  have dn : ∀ b o, b ≠ 56 → hp0.get? b = some o → (hideAll hp0 [56]).get? b = some o := fun b o hb e => hideAll_get _ e fun hm => hb (List.mem_singleton.mp hm)
  simp only [List.map_cons, List.map_nil] at F N
  dsimp only at F N ⊢
  generalize hG : hideAll hp0 [56] = G at *
  k_steps
  unfold Stop
  rename_i oK oT dK dT'
  have hdT' : oT.data = .cell (some (.ref T)) := dT'
  have hdK : oK.data = .cell none := dK
  clear dK dT'
  refine DictComp_tup (ns := ns) (ps := ps) (cl := [(Str.ofString "tree", L + 1)]) rfl (by with_unfolding_all rfl) (by decide) (by rfl) (by decide) (by rfl) (by decide) hnd (by omega) ?_
  refine wpAny_mono (Q := NodesRes h₁ gn dr os ln) ?_ (fun v s' hv' => ?_) fun _ _ e => e
  · k_steps
    exact .mk
  cases hv' with
  | mk =>
  rename_i tk1
  have hLup : Kp G h₁ := F.keep
  have hln : LstAt h₁ ln us := hl.keeps hLup
  obtain ⟨nl, hnl⟩ := hln
  refine ⟨ln, us, rfl, ⟨_, hnl, rfl, nl, rfl⟩, hi, ?_, ?_⟩
  · intro C i j tj s2 m2 E' hC hj hns hm2 hkp
    obtain ⟨h2, g2, d2, t2, o2⟩ := s2
    dsimp only at hC hns hkp ⊢
    obtain ⟨oC, hoC, hNs⟩ := LCg.ns_obj hns
    have hPj := hP i j hj
    have hLlt : L < h₁.objs.size := F.ns.lt
    have F2 := fr_grow F hkp
    have N2 : News G L h2 [(C, oC), (L + 1, oT)] := fun q hq => by
      simp only [List.mem_cons, List.not_mem_nil, or_false] at hq
      rcases hq with rfl | rfl
      · refine ⟨hoC, Nat.ne_of_gt (Nat.lt_of_lt_of_le hLlt hC), ?_⟩
        cases e : G.get? C with
        | none => rfl
        | some o => exact absurd (Nat.lt_of_lt_of_le (Heap.lt_size (hLup _ _ e)) hC) (Nat.lt_irrefl _)
      · exact (news_grow N hkp) _ (.tail _ (.head _))
    clear F N
    k_steps
    unfold Stop
    (rename Fr _ _ _ _ => F3)
    exact place_c (B.keeps F3.keep) (Rm.sub hd (by decide)) (hT.keeps F3.keep) hPj _ _ fun v h' tk' kp ⟨l, us', c, e, hl', hi', hn'⟩ => ⟨⟨l, us', c, e, hl', hn', hi'⟩, h', tk', rfl, kp⟩
  · intro D od h' tk2 kvs tl hD hDle hod hokd hK htl hkp
    dsimp only at hD hDle hkp ⊢
    have F2 := fr_grow F hkp
    have hfresh : ∀ {b : Addr}, h₁.get? b = none → b ≠ L ∧ G.get? b = none ∧ b ≠ L + 1 + 1 ∧ b ≠ L + 1 ∧ b ≠ 56 := fun {b} e => by
      have q1 := (N (L + 1 + 1, oK) (.head _)).1
      have q2 := (N (L + 1, oT) (.tail _ (.head _))).1
      have q3 := (N (56, tabObj tab) (.tail _ (.tail _ (.head _)))).1
      obtain ⟨oL, _, _, q4, _⟩ := F.ns
      refine ⟨?_, ?_, ?_, ?_, ?_⟩
      · rintro rfl; rw [e] at q4; cases q4
      · cases q : G.get? b with
        | none => rfl
        | some o => rw [hLup _ _ q] at e; cases e
      · rintro rfl; rw [e] at q1; cases q1
      · rintro rfl; rw [e] at q2; cases q2
      · rintro rfl; rw [e] at q3; cases q3
    have N2 : News G L h' ((D, od) :: (L + 1 + 1, oK) :: (L + 1, oT) :: (56, tabObj tab) :: tl) := fun q hq => by
      rcases List.mem_cons.mp hq with rfl | hq
      · exact ⟨hod, (hfresh hD).1, (hfresh hD).2.1⟩
      · rcases List.mem_cons.mp hq with rfl | hq
        · exact news_grow N hkp _ (.head _)
        · rcases List.mem_cons.mp hq with rfl | hq
          · exact news_grow N hkp _ (.tail _ (.head _))
          · rcases List.mem_cons.mp hq with rfl | hq
            · exact news_grow N hkp _ (.tail _ (.tail _ (.head _)))
            · obtain ⟨a1, a2, a3⟩ := htl q hq
              exact ⟨a1, (hfresh a2).1, (hfresh a2).2.1⟩
    have t1 : ∀ q ∈ tl, q.1 ≠ L + 1 + 1 := fun q hq => (hfresh (htl q hq).2.1).2.2.1
    have t2 : ∀ q ∈ tl, q.1 ≠ 56 := fun q hq => (hfresh (htl q hq).2.1).2.2.2.2
    have d1 : @Ne Nat D (L + 1 + 1) := (hfresh hD).2.2.1
    have d2 : @Ne Nat D 56 := (hfresh hD).2.2.2.2
    have hlo : (D == sysModules) = false := by
      refine beq_eq_false_iff_ne.mpr fun q => ?_
      have q1 := modules_low T'.nolimit
      have q2 := F.above
      have q3 := F.ns.lt
      have q4 : sysModules < D := Nat.lt_of_lt_of_le (Nat.lt_trans (Nat.lt_of_lt_of_le q1 q2) q3) hDle
      rw [q] at q4
      exact Nat.lt_irrefl _ q4
    have hne : ∀ i, i < ns.length → ∃ x r, ps i = x :: r := fun i hi => by
      have := hP i _ (List.getElem?_eq_getElem hi)
      cases e : ps i with
      | nil => rw [e] at this; cases this
      | cons x r => exact ⟨x, r, rfl⟩
    clear F N
    rcases h56.2 with rfl | ⟨c', rfl, hrec⟩
    · k_steps
      unfold Stop
      (rename Fr _ _ _ _ => F6); (rename News _ _ _ _ => N6)
      rename_i oK2 _ _ hoK2 f6 c6 oc6 vs6 t6 ct6 _ _ hv6 hq6 l6 l7
      refine inorder_end B (Rm.sub hd (by decide)) F6 N6 (.head _) (.tail _ (.tail _ (.head _))) (.tail _ (.tail _ (.tail _ (.head _)))) (c' := c6) (.tail _ (.tail _ (.tail _ (.tail _ (.tail _ (.head _)))))) (fun q hq => .tail _ (.tail _ (.tail _ (.tail _ (.tail _ (.tail _ hq)))))) (fun h7 _ N7 => ?_) hoK2 hokd hlo hnd hK hn3 hne hdesc dn ret
      exact ⟨c6, oc6, vs6, t6, rfl, (N7 _ (.tail _ (.head _))).1, hv6, hq6⟩
    · have hlk : lamKey c' = #[rawInt 47, rawInt 29, .ref c'] := rfl
      rw [hlk] at N2
      k_steps
      unfold Stop
      (rename Fr _ _ _ _ => F6); (rename News _ _ _ _ => N6)
      rename_i oK2 _ _ hoK2 f6 ct6 _ _ l6
      refine inorder_end B (Rm.sub hd (by decide)) F6 N6 (.head _) (.tail _ (.head _)) (.tail _ (.tail _ (.head _))) (c' := c') (.tail _ (.tail _ (.tail _ (.tail _ (.head _))))) (fun q hq => .tail _ (.tail _ (.tail _ (.tail _ (.tail _ hq))))) (fun h7 F7 _ => ?_) hoK2 hokd hlo hnd hK hn3 hne hdesc dn ret
      obtain ⟨c2, oc, vs, t, e1, e2, e3, e4⟩ := hrec
      refine ⟨c2, oc, vs, t, e1, F7.keep _ _ (dn _ _ (fun q => ?_) e2), e3, e4⟩
      subst q
      rw [h56.1] at e2
      cases e2
      cases e3
      cases e4
end
/-- the elements at and above one, the nearest first -/
inductive Chain (as : List Int) : Int → List Nat → Prop
  | top : Chain as (-1) []
  | step {i : Nat} {a : Int} {l : List Nat} : as[i]? = some a → Chain as a l → Chain as (i : Int) (i :: l)
theorem ints_at : ∀ {vs : List Value} {ns : List Int} {k : Nat} {n : Int}, IntsAre vs ns → ns[k]? = some n → ∃ t, vs[k]? = some (.int n t)
  | _, _, _, _, .nil, e => by simp at e
  | _, _, 0, _, .cons m t _, e => ⟨t, by simp at e; simp [e]⟩
  | _, _, k + 1, _, .cons m t h, e => by
    obtain ⟨t', e'⟩ := ints_at h (show _ from by simpa using e)
    exact ⟨t', by simpa using e'⟩
theorem len_news {w : World} {A : Around} {E : Value → Shared → Prop} {s : Shared} {h₀ : Heap} {L a : Addr} {news : List (Addr × Obj)} {vs : List Value} {n : Nat} {Q : Value → Shared → Prop} (N : News h₀ L s.heap news) (hm : (a, W.listOf vs.toArray n) ∈ news) (hs : (vs.length : Int) < 2 ^ 63)
    (h : Q (.int vs.length (s.toks + 1)) { s with toks := s.toks + 1 + 1 }) : wpAny (model prg w) A (call (.builtin "len") [.ref a]) Q E s :=
  call_len_list (items := vs.toArray) ⟨_, (N _ hm).1, rfl, n, rfl⟩ (by rw [List.size_toArray]; exact hs) (by rw [List.size_toArray]; exact h)
theorem rows_m : True := by
  (k_with "call builtin:len" => (k_here; (with_reducible show wpAny _ _ (call (Value.builtin "len") [Value.ref _]) _ _ _); k_dflt (refine' len_news ?qN ?qm ?qz ?_; (case qN => k_asm); (case qm => k_mem); (case qz => omega); k_whole)))
  trivial
section
variable {w : World} {p : Program} {loose : List Str} {mean : ExcName → Option Value} {mg mb : Str → Option Value} {A : Around} {s : Shared}
theorem law_line_c (B : Bs w p loose mean mg mb s.heap) (hd : Rm A 2) {la : Addr} {va : List Value} {as : List Int} (hl : LstAt s.heap la va) (hi : IntsAre va as) (hz : as.length ≤ 1000) {at_ : Int} {ti : Tok} {l : List Nat} (hC : Chain as at_ l) (h9 : l.length ≤ 8) :
    RO w A s (call (.ref 349) [.ref la, .int at_ ti]) fun v h' => NewIds s.heap h' v l.reverse := by
  refine fill0 ?_; k_fill; intro _
  obtain ⟨hp0, gn, dr, tk0, os⟩ := s
  dsimp only at B hl
  intro Q E ret
  dsimp only at ret
  obtain ⟨hA, dp, frs, gds, un⟩ := A; obtain rfl : hA = none := hd.handled
  refine enter B (st := stmtAt 24) (f := 349) (binds := [(Str.ofString "arounds", .ref la), (Str.ofString "at", .int at_ ti)]) (by k_is) rfl (by k_is) hd.room (by rfl) (by rfl) ?_
  have X := B.X
  have T' := B.T
  intro h₁ tk F
  dsimp only at F ⊢
  have N : News hp0 hp0.objs.size h₁ [] := News.nil
  k_steps
  unfold Stop
  (rename Fr _ _ _ _ => F1); (rename News _ _ _ _ => N1)
  rename_i D _ _ _
  refine While_inv (fun n m nx => ∃ D pre rest a u vs c, Has m [(Str.ofString "arounds", .ref la), (Str.ofString "at", .int a u), (Str.ofString "found", .ref D)] ∧ nx = [(D, listOf vs.toArray c)] ∧
    IntsAre vs (pre.reverse.map Int.ofNat) ∧ pre ++ rest = l ∧ Chain as a rest ∧ rest.length = n) (n₀ := l.length) F1 N1 ⟨D, [], l, at_, ti, [], 0, ⟨rfl, rfl, rfl, trivial⟩, rfl, .nil, rfl, hC, rfl⟩ ?_
  clear F1 N1
  rintro n m₁ news₁ h₂ tk₂ F1 N1 ⟨D, pre, rest, a, u, vs, c, hm, rfl, hI, hcat, hVr, hlen⟩
  have F2 := fr_has F1 hm
  dsimp only [setL] at F2
  clear F1
  have hvl : vs.length = pre.length := by rw [ids_size hI, List.length_reverse]
  cases hVr with
  | top =>
    k_steps
    rw [List.append_nil] at hcat
    subst hcat
    exact ret _ _ _ F2.keep ⟨D, rfl, ⟨vs, ⟨_, (N1 _ (.head _)).1⟩, hI⟩, (N1 _ (.head _)).2.2⟩
  | step ha hc =>
    rename_i i a' rest'
    have hpl : pre.length < 9 := by
      have := congrArg List.length hcat
      simp only [List.length_append, List.length_cons] at this; omega
    have c1 : ((i : Int) != -1) = true := bne_iff_ne.mpr (by omega)
    have c2 : decide ((vs.length : Int) < 9) = true := decide_eq_true (by omega)
    obtain ⟨tx, hx0⟩ := ints_at hi ha
    have hx : va[(i : Int).toNat]? = some (.int a' tx) := hx0
    have hi1 : i < 1000 := Nat.lt_of_lt_of_le (List.getElem?_eq_some_iff.mp ha).1 hz
    k_steps
    unfold Stop
    (rename Fr _ _ _ _ => F3); (rename News _ _ _ _ => N3)
    (rename IntsAre _ (_ ++ _) => hI3)
    rename_i D3 ws3 _ _ _ _
    exact WhileStep.intro F3 (news_sub N3 (l' := [(D3, W.listOf ws3.toArray 0)]) (List.forall_mem_cons.mpr ⟨.head _, List.forall_mem_nil _⟩)) (by rw [← hlen]; exact Nat.lt_succ_self _)
      ⟨D3, pre ++ [i], rest', a', tx, ws3, 0, ⟨rfl, rfl, rfl, trivial⟩, rfl, by rw [List.reverse_append]; exact hI3, by rw [List.append_assoc]; exact hcat, hc, rfl⟩
end
section
variable {prog : Program} {w : World} {A : Around} {E : Value → Shared → Prop} {s : Shared} {env : Env} {h₀ : Heap} {target : PySem.Expr} {body : List Stmt} {Q : Flow → Shared → Prop}
/-- the turns of a loop over a list of the base -/
theorem iter_listB {ax : Addr} {vs : List Value} {n : Nat} {m₀ : Str → Option Value} {news : List (Addr × Obj)}
    (hh : A.handled = none) (F : Fr h₀ env.locals s.heap m₀) (N : News h₀ env.locals s.heap news) (hg : h₀.get? ax = some (W.listOf vs.toArray n))
    (rest₀ : ∀ I : Addr, (∀ p ∈ news, p.1 < I) → ItemsRest prog w A E h₀ env target body Q s [(I, "list_iterator")] [] (vs.map .val) m₀ news) :
    wpAny (model prog w) A (pyIter (.ref ax)) (fun it s₂ => TurnsAt prog w A h₀ env target body Q E it s₂) E s := by
  have hax := F.keep _ _ hg
  have hl : s.heap.IsList ax vs.toArray := ⟨_, hax, rfl, n, rfl⟩
  have hlt : ax < s.heap.objs.size := Heap.lt_size hax
  have hne : ax ≠ s.heap.objs.size := Nat.ne_of_lt hlt
  refine wpAny_pyIter_list hl ?_
  refine ktg_core (tk0 := s.toks) (keep := []) (KTurns.ofWalks (Walks.list hh s.heap.objs.size ax hne vs.toArray) fun i v s Q E st q => letGo_listiter st.1 q) (by simp) (fun i v h hp => ⟨.val v, ?_, rfl⟩) (fun i h st => ?_) (fun b hb => ?_) (fun b hb => by simpa using hb) (fun b hb => ?_) ?_ (fun p hp hI => ?_) ?_ (F.push _) (fun p hp => ⟨Heap.get?_push_of_some _ (N p hp).1, (N p hp).2⟩) trivial (rest₀ _ fun p hp => Heap.lt_size (N p hp).1)
  · have hp' : vs.toArray[i]? = some v := hp
    simpa using hp'
  · obtain ⟨it, hit, hic, _⟩ := st.1
    exact ⟨[(s.heap.objs.size, it)], ⟨⟨rfl, hic⟩, trivial⟩, fun p hp => by rw [List.mem_singleton.mp hp]; exact hit⟩
  · have hb' : b = s.heap.objs.size := by simpa using hb
    rw [hb']
    exact ⟨List.mem_cons_self .., next_is_new F⟩
  · have hb' : b = s.heap.objs.size ∨ b = ax := by simpa using hb
    rcases hb' with e | e
    · exact .inl (by simp [e])
    · exact .inr (.inr ⟨_, by rw [e]; exact hg⟩)
  · intro hI
    rcases List.mem_cons.mp hI with e | hI
    · exact absurd F.ns.lt (e ▸ Nat.lt_irrefl _)
    · have e : env.locals = ax := List.mem_singleton.mp hI
      exact absurd (Heap.lt_size hg) (Nat.not_lt.mpr (e ▸ F.above))
  · exact absurd (Heap.lt_size (N p hp).1) ((List.mem_singleton.mp hI) ▸ Nat.lt_irrefl _)
  · exact ⟨⟨_, Heap.get?_push_size _ rfl, rfl, rfl⟩, hl.at fun o e => Heap.get?_push_of_some _ e⟩
theorem unpackB {elts : List PySem.Expr} {k} {pos : Pos} {t L : Addr} {m : Str → Option Value} {news : List (Addr × Obj)} {its : List Value} {n : Nat} {Q : Unit → Shared → Prop} (F : Fr h₀ L s.heap m) (N : News h₀ L s.heap news) (hb : h₀.get? t = some (tupO its n))
    (hh : A.handled = none) (hn : (assignEach elts env).length = its.length) (hstar : (assignEach elts env).findIdx? (·.1) = none)
    (h : ∀ h', Fr h₀ L h' m → News h₀ L h' news → wpAny (model prog w) A (assignInOrder ((assignEach elts env).map (·.2)) its) Q E { s with heap := h' }) :
    wpAny (model prog w) A (assign (.Tuple elts k pos) env (.ref t)) Q E s :=
  unpackN_ (items := its.toArray) F N ⟨_, F.keep _ _ hb, rfl, n, rfl⟩ hh (by rw [List.size_toArray]; exact hn) hstar h
end
theorem tupB {h₀ h : Heap} {L t : Addr} {m : Str → Option Value} {its : List Value} {n : Nat} (F : Fr h₀ L h m) (hb : h₀.get? t = some (tupO its n)) : IsTup h t its.toArray := ⟨_, F.keep _ _ hb, rfl, n, rfl⟩
/-- what was told: prefix, uri, node -/
noncomputable abbrev TD := List (List (Str × Str × Nat))
noncomputable def TupRow (h : Heap) (v : Value) (r : Str × Str × Nat) : Prop := ∃ t u1 u2 u3 c, v = .ref t ∧ h.get? t = some (tupO [.str r.1 u1, .str r.2.1 u2, .int (r.2.2 : Int) u3] c)
noncomputable def RowsAt (h : Heap) (v : Value) (rows : List (Str × Str × Nat)) : Prop := ∃ a ws, v = .ref a ∧ LstAt h a ws ∧ Paired (TupRow h) ws rows
noncomputable def ToldAt (h : Heap) (lt : Addr) (td : TD) : Prop := ∃ vs, LstAt h lt vs ∧ Paired (RowsAt h) vs td
theorem paired_mono {α β : Type} {F G : α → β → Prop} (hFG : ∀ a b, F a b → G a b) {l : List α} {r : List β} (h : Paired F l r) : Paired G l r := by
  induction h with
  | nil => exact .nil
  | cons a _ ih => exact .cons (hFG _ _ a) ih
theorem paired_get {α β : Type} {F : α → β → Prop} {l : List α} {r : List β} (h : Paired F l r) : ∀ {i : Nat} {b : β}, r[i]? = some b → ∃ a, l[i]? = some a ∧ F a b := by
  induction h with
  | nil => intro i b e; simp at e
  | cons x _ ih =>
    intro i b e
    cases i with
    | zero => exact ⟨_, rfl, by simp at e; exact e ▸ x⟩
    | succ i =>
      obtain ⟨a, e1, e2⟩ := ih (show _ from by simpa using e)
      exact ⟨a, by simpa using e1, e2⟩
theorem TupRow.keeps {h h' : Heap} {v : Value} {r : Str × Str × Nat} (x : TupRow h v r) (k : Kp h h') : TupRow h' v r := let ⟨t, a, b, c, d, e, f⟩ := x; ⟨t, a, b, c, d, e, k _ _ f⟩
theorem RowsAt.keeps {h h' : Heap} {v : Value} {r : List (Str × Str × Nat)} (x : RowsAt h v r) (k : Kp h h') : RowsAt h' v r :=
  let ⟨a, ws, e, l, p⟩ := x; ⟨a, ws, e, l.keeps k, paired_mono (fun _ _ y => y.keeps k) p⟩
theorem ToldAt.keeps {h h' : Heap} {lt : Addr} {td : TD} (x : ToldAt h lt td) (k : Kp h h') : ToldAt h' lt td :=
  let ⟨vs, l, p⟩ := x; ⟨vs, l.keeps k, paired_mono (fun _ _ y => y.keeps k) p⟩
noncomputable def tdAt (td : TD) (i : Nat) : List (Str × Str × Nat) := (td[i]?).getD []
noncomputable def laterB (td : TD) (rest : List Nat) (p : Str) : Bool := rest.any fun b => (tdAt td b).any fun r => r.1 == p
noncomputable def dueRow (td : TD) (rest : List Nat) (acc : List Nat × DD) (r : Str × Str × Nat) : List Nat × DD :=
  if laterB td rest r.1 = false ∧ r.2.1 ≠ Str.ofString "" then (acc.1 ++ [r.2.2], PyProof.V.putD (.str r.1) (.str r.2.1) acc.2) else acc
noncomputable def dueGo (td : TD) : List Nat → List Nat × DD → List Nat × DD
  | [], acc => acc
  | h :: rest, acc => dueGo td rest ((tdAt td h).foldl (dueRow td rest) acc)
/-- what _law_due gives -/
noncomputable def NewDue (w : World) (h h' : Heap) (v : Value) (r : List Nat × DD) : Prop := ∃ t l d n o, v = .ref t ∧ h'.get? t = some (tupO [.ref l, .ref d] n) ∧ IdsAt h' l r.1 ∧ h'.get? d = some o ∧ DictS w o r.2 ∧ (d == sysModules) = false ∧ h.get? t = none ∧ h.get? l = none ∧ h.get? d = none
theorem Rm.units64 {A : Around} {k : Nat} (h : Rm A k) (hk : 2 ≤ k) : A.units + 64 < cLine := by have := h.units; omega
theorem eq_nil {w : World} {A : Around} {E : Value → Shared → Prop} {s : Shared} {h₀ : Heap} {L a b : Addr} {news : List (Addr × Obj)} {xs : List Value} {n n2 : Nat} {ns : List Int} {Q : Value → Shared → Prop} (N : News h₀ L s.heap news) (m1 : (a, W.listOf xs.toArray n) ∈ news) (m2 : (b, W.listOf #[] n2) ∈ news) (hi : IntsAre xs ns) (hu : A.units + 64 < cLine)
    (h : Q (.bool (decide (ns = []))) s) : wpAny (model prg w) A (compareOp .Eq (.ref a) (.ref b)) Q E s :=
  ke_eq_ints (xs := xs) (ys := []) ⟨_, (N _ m1).1, rfl, n, rfl⟩ ⟨_, (N _ m2).1, rfl, n2, rfl⟩ hi .nil hu h
/-- the items of told at a number -/
noncomputable def wsOf (h : Heap) (vt : List Value) : Value → List Value
  | .int n _ => itemsAt h (vt.getD n.toNat .none)
  | _ => []
/-- whether a row tells of this prefix -/
noncomputable def fstIs (h : Heap) (p : Str) (z : Value) : Bool := match itemsAt h z with
  | .str x _ :: _ => x == p
  | _ => false
theorem fstIs_row {h : Heap} {p : Str} {z : Value} {r : Str × Str × Nat} (x : TupRow h z r) : fstIs h p z = (r.1 == p) := by
  obtain ⟨t, u1, u2, u3, c, rfl, e⟩ := x
  simp [fstIs, itemsAt, e]
theorem items_rows {h : Heap} {v : Value} {rows : List (Str × Str × Nat)} (x : RowsAt h v rows) : Paired (TupRow h) (itemsAt h v) rows := by
  obtain ⟨a, ws, rfl, ⟨n, e⟩, p⟩ := x
  have : itemsAt h (.ref a) = ws := by simp [itemsAt, e, W.listOf]
  rw [this]; exact p
theorem paired_mem {α β : Type} {F : α → β → Prop} {l : List α} {r : List β} (h : Paired F l r) : ∀ {a : α}, a ∈ l → ∃ b, b ∈ r ∧ F a b := by
  induction h with
  | nil => intro a ha; cases ha
  | cons x _ ih =>
    intro a ha
    rcases List.mem_cons.mp ha with rfl | ha
    · exact ⟨_, .head _, x⟩
    · obtain ⟨b, hb, hf⟩ := ih ha
      exact ⟨b, .tail _ hb, hf⟩
theorem filt_nil {h : Heap} {p : Str} {l : List Value} {r : List (Str × Str × Nat)} (x : Paired (TupRow h) l r) : l.filter (fstIs h p) = [] ↔ (r.any fun q => q.1 == p) = false := by
  induction x with
  | nil => exact ⟨fun _ => rfl, fun _ => rfl⟩
  | cons a _ ih =>
    rw [List.filter_cons, List.any_cons, fstIs_row a]
    rename_i z q l r ha
    cases hq : (q.1 == p) with
    | true => simp
    | false => simpa using ih
theorem later_nil {h : Heap} {vt : List Value} {td : TD} {p : Str} : ∀ {us : List Value} {rest : List Nat}, IntsAre us (rest.map Int.ofNat) → (∀ b ∈ rest, Paired (TupRow h) (itemsAt h (vt.getD b .none)) (tdAt td b)) →
    ((us.flatMap fun u => (wsOf h vt u).filter (fstIs h p)) = [] ↔ laterB td rest p = false)
  | _, [], hi, _ => by cases hi; exact ⟨fun _ => rfl, fun _ => rfl⟩
  | _, b :: rest, hi, hp => by
    cases hi with
    | cons _ t hi =>
    have h1 := filt_nil (p := p) (hp b (.head _))
    have h2 := later_nil (p := p) hi fun b hb => hp b (.tail _ hb)
    rw [List.flatMap_cons, List.append_eq_nil_iff, h2]
    have e1 : wsOf h vt (.int (Int.ofNat b) t) = itemsAt h (vt.getD b .none) := rfl
    have e2 : laterB td (b :: rest) p = (((tdAt td b).any fun r => r.1 == p) || laterB td rest p) := rfl
    rw [e1, e2, h1, Bool.or_eq_false_iff]
theorem flat_bound {ws : Value → List Value} {c : Nat} : ∀ {us : List Value}, (∀ u ∈ us, (ws u).length ≤ c) → (us.flatMap ws).length ≤ c * us.length
  | [], _ => Nat.zero_le _
  | u :: us, h => by
    have h1 := h u (.head _)
    have h2 := flat_bound (us := us) fun u hu => h u (.tail _ hu)
    rw [List.flatMap_cons, List.length_append, List.length_cons, Nat.mul_succ]
    omega
theorem ones_of {l ys : List Value} (h : Paired (fun _ r : Value => ∃ t, r = .int 1 t) l ys) : IntsAre ys (List.replicate l.length 1) := by
  induction h with
  | nil => exact .nil
  | cons a _ ih => obtain ⟨t, rfl⟩ := a; exact .cons 1 t ih
inductive SlRes (hp0 : Heap) (L : Addr) (gn : Array GenState) (dr : Drawn) (os : OsState) (hl : List (Str × Value)) (ms : List Nat) (nx : List (Addr × Obj)) : Value → Shared → Prop
  | mk {m : Str → Option Value} {D : Addr} {us : List Value} {c : Nat} {h' : Heap} {tk' : Nat} : Has m hl → Fr hp0 L h' m → News hp0 L h' ((D, W.listOf us.toArray c) :: nx) → IntsAre us (ms.map Int.ofNat) → SlRes hp0 L gn dr os hl ms nx (.ref D) { heap := h', gens := gn, drawn := dr, toks := tk', os := os }
/-- what stands between the turns of the outer loop of _law_due -/
inductive DuO (w : World) (td : TD) (la L Ll Nd Dp : Addr) (at_ : Nat) (ti : Tok) (lo oT : Obj) (vs : List Value) (line : List Nat) (fin : List Nat × DD) : List Itm → (Str → Option Value) → List (Addr × Obj) → Prop
  | mk {k : Nat} {m : Str → Option Value} {acc : List Nat × DD} {vn : List Value} {cn : Nat} {o oP : Obj} {pv : Option Value} : Has m [(Str.ofString "arounds", .ref la), (Str.ofString "at", .int (at_ : Int) ti), (Str.ofString "line", .ref Ll), (Str.ofString "nodes", .ref Nd), (Str.ofString "pairs", .ref Dp)] →
    IntsAre vn (acc.1.map Int.ofNat) → DictS w o acc.2 → vn.length ≤ 1000 * k → acc.2.length ≤ 1 + 1000 * k → dueGo td (line.drop k) acc = fin → oP.data = .cell pv →
    DuO w td la L Ll Nd Dp at_ ti lo oT vs line fin (enumItems k (vs.drop k)) m [(Dp, o), (Nd, listOf vn.toArray cn), (Ll, lo), (L + 1 + 1, oP), (L + 1, oT)]
/-- what stands between the turns of the inner loop of _law_due -/
inductive DuI (w : World) (td : TD) (la L Ll Nd Dp : Addr) (at_ : Nat) (ti tp th : Tok) (k j : Nat) (FX : List (Addr × Obj)) (ws : List Value) (rows : List (Str × Str × Nat)) (rest : List Nat) (fin : List Nat × DD) (b : Nat) : List Itm → (Str → Option Value) → List (Addr × Obj) → Prop
  | mk {k2 : Nat} {m : Str → Option Value} {acc : List Nat × DD} {vn : List Value} {cn : Nat} {o oP : Obj} {pv : Option Value} : Has m [(Str.ofString "arounds", .ref la), (Str.ofString "at", .int (at_ : Int) ti), (Str.ofString "line", .ref Ll), (Str.ofString "nodes", .ref Nd), (Str.ofString "pairs", .ref Dp), (Str.ofString "place", .int (k : Int) tp), (Str.ofString "here", .int (j : Int) th)] →
    IntsAre vn (acc.1.map Int.ofNat) → DictS w o acc.2 → k2 ≤ rows.length → vn.length ≤ b + k2 → acc.2.length ≤ 1 + b + k2 → (rows.drop k2).foldl (dueRow td rest) acc = fin → oP.data = .cell pv →
    DuI w td la L Ll Nd Dp at_ ti tp th k j FX ws rows rest fin b ((ws.drop k2).map .val) m ((Dp, o) :: (Nd, listOf vn.toArray cn) :: (L + 1 + 1, oP) :: FX)
theorem rows_n : True := by
  (k_with "exec Assign cons ListComp" => refine stop_of ?_)
  (k_with "call ref" => (k_here; k_dflt ((with_reducible show wpAny _ _ (call (Value.ref 349) _) _ _ _); refine' useNew ?qF ?qN (law_line_c (Bs.keeps ?qB (Fr.keep ?qF2)) ?qd (LstAt.keeps ?ql (Fr.keep ?qF3)) ?qi ?qz ?qC ?qh9) ?_; (case qF | qN | qB | qF2 | ql | qF3 | qi | qz | qC | qh9 => k_asm); (case qd => exact Rm.sub (by assumption) (by decide)); k_whole); walk_at "roN"))
  (k_with "assign Tuple" => (k_here; (with_reducible show wpAny _ _ (assign (PySem.Expr.Tuple _ _ _) _ (Value.ref _)) _ _ _); k_dflt (refine' unpackB ?qF ?qN ?qb ?qk1 ?qk2 ?qk3 ?_; (case qF => k_asm); (case qN => k_asm); (case qb => k_asm); (case qk1 => exact rfl); (case qk2 => exact rfl); (case qk3 => exact rfl)); intro _ _ _; (try k_sweep)))
  trivial
local macro_rules | `(tactic| kmk_nums) => `(tactic| k_extra "knums")
theorem rows_o : True := by
  (k_with "knums" => exact slice_ints_fromW (by k_asm) (by omega))
  trivial
theorem rows_p : True := by
  (k_with "subscriptTail" => (k_here; (with_reducible show wpAny _ _ (subscriptTail _ _ (Value.ref _) (Value.int _ _)) _ _ _); k_dflt (refine' item_tupleT (tupB ?qF ?qb) ?qa1 ?qa2 ?qa3 ?qa4 ?_; (case qF => k_asm); (case qb => k_asm); (case qa1 => decide); (case qa2 => decide); (case qa3 => rfl); (case qa4 => rfl); k_whole)))
  (k_with "compareOp Eq ref ref" => (k_here; k_dflt (refine' eq_nil ?qN ?qa ?qb ?qi ?qu ?_; (case qN => k_asm); (case qa => k_mem); (case qb => k_mem); (case qi => k_asm); (case qu => exact Rm.units64 (k := 2) (Rm.sub (by assumption) (by decide)) (by decide)); k_whole)))
  trivial
section
variable {w : World} {p : Program} {loose : List Str} {mean : ExcName → Option Value} {mg mb : Str → Option Value} {A : Around} {s : Shared}
theorem law_due_c (B : Bs w p loose mean mg mb s.heap) (hd : Rm A 3) {la lt : Addr} {va : List Value} {as : List Int} {td : TD} (hl : LstAt s.heap la va) (hi : IntsAre va as) (hz : as.length ≤ 1000) (htd : ToldAt s.heap lt td) (htl : td.length ≤ 1000) {at_ : Nat} {ti : Tok} {l : List Nat} (hC : Chain as at_ l) (h9 : l.length ≤ 8)
    (hlt : ∀ e ∈ l, e < td.length) (hrw : ∀ rows ∈ td, rows.length ≤ 1000) :
    RO w A s (call (.ref 354) [.ref la, .ref lt, .int (at_ : Int) ti]) fun v h' => NewDue w s.heap h' v (dueGo td l.reverse ([], xmlD)) := by
  refine fill0 ?_; k_fill; intro _
  obtain ⟨hp0, gn, dr, tk0, os⟩ := s
  dsimp only at B hl htd
  intro Q E ret
  dsimp only at ret
  obtain ⟨hA, dp, frs, gds, un⟩ := A; obtain rfl : hA = none := hd.handled
  refine enterC (hid := []) B (List.forall_mem_nil _) (st := stmtAt 25) (f := 354) (binds := [(Str.ofString "arounds", .ref la), (Str.ofString "told", .ref lt), (Str.ofString "at", .int (at_ : Int) ti)]) (by k_is) rfl (by k_is) hd.room (by rfl) (by rfl) (by decide +kernel) ?_
  intro L h₁ tk cells hL F N Y hlt0
  have X := B.X
  have T' := B.T
  obtain ⟨vt, hlv, hvt⟩ := htd
  simp only [List.map_nil, hideAll] at F N
  k_cells Y
  simp only [List.cons_append, List.nil_append] at N
  dsimp only at F N ⊢
  k_steps
  unfold Stop
  (rename Fr _ _ _ _ => F1); (rename News _ _ _ _ => N1)
  rename_i oP oT dP dT Ll vs0 n0 _ _ hI0 ne0 _ _ Nd hX lNd _ o0 lo0 hd0 hf0 _ lDp Dt _ lDt _ _ _
  have hdT : oT.data = .cell (some (.ref lt)) := dT
  have hdP : oP.data = .cell none := dP
  clear dP dT
  try dsimp only at F1 N1 lo0
  have hdS : DictS w o0 xmlD := ⟨_, hd0, hf0⟩
  clear hd0 hf0
  generalize hX.objs.size = Dp at *
  have a1 : @Ne Nat Dp Nd := Nat.ne_of_gt lDp.1
  have a2 : @Ne Nat Ll Nd := Nat.ne_of_lt lNd.1
  have a3 : @Ne Nat (L + 1 + 1) Nd := Nat.ne_of_lt lNd.2.1
  have a4 : @Ne Nat (L + 1) Nd := Nat.ne_of_lt lNd.2.2
  have a5 : @Ne Nat Ll Dp := Nat.ne_of_lt lDp.2.1
  have a6 : @Ne Nat (L + 1 + 1) Dp := Nat.ne_of_lt lDp.2.2.1
  have a7 : @Ne Nat (L + 1) Dp := Nat.ne_of_lt lDp.2.2.2
  have a8 : @Ne Nat Ll (L + 1 + 1) := Ne.symm ne0.1
  have hv0 : vs0.length = l.reverse.length := ids_size hI0
  refine For_turns F1 ?_
  k_steps
  unfold Stop
  refine ktu_enum (lo := W.listOf vs0.toArray n0) (vs := vs0) (news := [(Dp, o0), (Nd, W.listOf ([] : List Value).toArray 0), (Ll, W.listOf vs0.toArray n0), (L + 1 + 1, oP), (L + 1, oT)]) rfl F1 (news_sub N1 (SubL.mem (by k_subL))) (.tail _ (.tail _ (.head _))) rfl rfl rfl fun I hIlt => ?_
  refine items_ind (DuO w td la L Ll Nd Dp at_ ti (W.listOf vs0.toArray n0) oT vs0 l.reverse (dueGo td l.reverse ([], xmlD))) ?nil ?cons _ _ _ ?start
  case start => exact .mk (k := 0) (acc := ([], xmlD)) ⟨rfl, rfl, rfl, rfl, rfl, trivial⟩ .nil hdS (Nat.le_refl _) (Nat.le_refl _) rfl hdP
  case nil =>
    intro m nx h tk hJ F2 N2
    generalize e : ([] : List Itm) = xs at hJ
    cases hJ with
    | mk hm hvn hD hl1 hl2 hfin hpv =>
    rename_i k acc vn cn o oP2 pv
    have hk : l.reverse.length ≤ k := by
      have := congrArg List.length e
      rw [enumItems_length, List.length_drop, hv0] at this
      simp only [List.length_nil] at this; omega
    rw [List.drop_of_length_le hk] at hfin
    have F3 := fr_has F2 hm
    dsimp only [setL, envOfC] at F3
    dsimp only [envOfC] at N2
    clear F1 N1 F2
    k_steps
    (rename Fr _ _ _ _ => F4); (rename News _ _ _ _ => N4)
    have hacc : acc = dueGo td l.reverse ([], xmlD) := hfin
    refine ret _ _ _ F4.keep ?_
    rw [← hacc]
    exact ⟨_, Nd, Dp, 0, o, rfl, (N4 _ (.head _)).1, ⟨vn, ⟨cn, (N4 _ (.tail _ (.tail _ (.head _)))).1⟩, hvn⟩, (N4 _ (.tail _ (.head _))).1, hD, lo0, (N4 _ (.head _)).2.2, (N4 _ (.tail _ (.tail _ (.head _)))).2.2, (N4 _ (.tail _ (.head _))).2.2⟩
  case cons =>
    intro itm r m nx v h tk hJ hv F2
    generalize e : itm :: r = xs at hJ
    cases hJ with
    | mk hm hvn hD hl1 hl2 hfin hpv =>
    rename_i k acc vn cn o oP2 pv
    have hk : k < l.reverse.length := by
      have := congrArg List.length e
      rw [enumItems_length, List.length_drop, hv0] at this
      simp only [List.length_cons] at this; omega
    have hk9 : k < 9 := by rw [List.length_reverse] at hk; omega
    obtain ⟨j, hj⟩ : ∃ j, l.reverse[k]? = some j := ⟨_, List.getElem?_eq_getElem hk⟩
    obtain ⟨v0, hv0k⟩ : ∃ v0, vs0[k]? = some v0 := ⟨_, List.getElem?_eq_getElem (by omega)⟩
    obtain ⟨j', tj, hj', rfl⟩ := ints_getN hI0 hv0k
    have hjj : j' = j := by rw [hj] at hj'; exact (Option.some.inj hj').symm
    subst hjj
    rw [drop_get hv0k] at e
    obtain ⟨rfl, rfl⟩ := List.cons.inj e
    obtain ⟨Tp, tq, rfl, hTp⟩ := hv
    have hjl : j' < td.length := hlt j' (List.mem_reverse.mp (List.mem_of_getElem? hj))
    obtain ⟨rows, hrows⟩ : ∃ rows, td[j']? = some rows := ⟨_, List.getElem?_eq_getElem hjl⟩
    have hrl : rows.length ≤ 1000 := hrw rows (List.mem_of_getElem? hrows)
    have htdj : tdAt td j' = rows := by rw [tdAt, hrows]; rfl
    obtain ⟨vj, hvj, ar, wr, rfl, ⟨nr, har⟩, hwr⟩ := paired_get hvt hrows
    have hx : vt[(j' : Int).toNat]? = some (.ref ar) := hvj
    have hj1 : j' < 1000 := by omega
    have hwl : wr.length = rows.length := hwr.length
    rw [drop_get hj] at hfin
    have hfin2 : dueGo td (l.reverse.drop (k + 1)) (rows.foldl (dueRow td (l.reverse.drop (k + 1))) acc) = dueGo td l.reverse ([], xmlD) := by rw [← htdj]; exact hfin
    refine AllObj.cons fun o1 ho1 => AllObj.cons fun o2 ho2 => AllObj.nil fun N2 => ?_
    dsimp only at ho1 ho2
    have F3 := fr_has F2 hm
    dsimp only [setL, envOfC] at F3
    dsimp only [envOfC, List.cons_append, List.nil_append] at N2
    have hI1 : @LT.lt Nat _ Dp I := hIlt _ (.head _)
    have hI2 : @LT.lt Nat _ Nd I := hIlt _ (.tail _ (.head _))
    have hI3 : @LT.lt Nat _ Ll I := hIlt _ (.tail _ (.tail _ (.head _)))
    have hI4 : @LT.lt Nat _ (L + 1 + 1) I := hIlt _ (.tail _ (.tail _ (.tail _ (.head _))))
    clear F1 N1 F2
    generalize hPo : UnrPostW _ _ _ _ _ _ = Po
    k_steps
    unfold Stop
    (rename Fr _ _ _ _ => F4)
    refine For_turns F4 ?_
    k_steps
    unfold Stop
    (rename Fr _ _ _ _ => F5); (rename News _ _ _ _ => N5)
    dsimp only at F5
    refine iter_listB (vs := wr) rfl F5 (news := (Dp, o) :: (Nd, W.listOf vn.toArray cn) :: (L + 1 + 1, oP2) :: [(I + 1, o1), (I, o2), (Ll, W.listOf vs0.toArray n0), (L + 1, oT)]) (news_sub N5 (SubL.mem (by k_subL))) har fun I2 hI2lt => ?_
    refine items_ind (DuI w td la L Ll Nd Dp at_ ti tq tj k j' [(I + 1, o1), (I, o2), (Ll, W.listOf vs0.toArray n0), (L + 1, oT)] wr rows (l.reverse.drop (k + 1)) (rows.foldl (dueRow td (l.reverse.drop (k + 1))) acc) (1000 * k)) ?nil1 ?cons1 _ _ _ ?start1
    case start1 => exact .mk (k2 := 0) (acc := acc) ⟨rfl, rfl, rfl, rfl, rfl, rfl, rfl, trivial⟩ hvn hD (Nat.zero_le _) (by omega) (by omega) rfl hpv
    case nil1 =>
      intro m2 nx2 h2 tk2 hJ2 F6 N6
      generalize e2 : ([] : List Itm) = xs2 at hJ2
      cases hJ2 with
      | mk hm2 hvn2 hD2 hle2 hl21 hl22 hfin3 hpv2 =>
      rename_i k2 acc2 vn2 cn2 o3 oP3 pv2
      have hk2 : rows.length ≤ k2 := by
        have := congrArg List.length e2
        rw [List.length_map, List.length_drop, hwl] at this
        simp only [List.length_nil] at this; omega
      rw [List.drop_of_length_le hk2] at hfin3
      have F7 := fr_has F6 hm2
      dsimp only [setL, envOfC] at F7
      dsimp only [envOfC] at N6
      clear F5 N5 F6
      k_steps
      subst hPo
      show UnrEndW _ _ _ _ _ _
      have hacc : acc2 = rows.foldl (dueRow td (l.reverse.drop (k + 1))) acc := hfin3
      refine UnrEndW.intro F7 N6 [(Dp, o3), (Nd, W.listOf vn2.toArray cn2), (Ll, W.listOf vs0.toArray n0), (L + 1 + 1, oP3), (L + 1, oT)] (by k_subL) (by k_subL) (by ktu_offL) ⟨by k_subL, ?_⟩
      refine DuO.mk (k := k + 1) (acc := acc2) ?hm hvn2 hD2 (by omega) (by omega) (by rw [hacc]; exact hfin2) hpv2
      case hm => exact ⟨rfl, rfl, rfl, rfl, rfl, trivial⟩
    case cons1 =>
      intro itm2 r2 m2 nx2 v2 h2 tk2 hJ2 hv2 F6
      generalize e2 : itm2 :: r2 = xs2 at hJ2
      cases hJ2 with
      | mk hm2 hvn2 hD2 hle2 hl21 hl22 hfin3 hpv2 =>
      rename_i k2 acc2 vn2 cn2 o3 oP3 pv2
      have hk2 : k2 < rows.length := by
        have := congrArg List.length e2
        rw [List.length_map, List.length_drop, hwl] at this
        simp only [List.length_cons] at this; omega
      obtain ⟨row, hrow⟩ : ∃ row, rows[k2]? = some row := ⟨_, List.getElem?_eq_getElem hk2⟩
      obtain ⟨vr, hvr, tr, u1, u2, u3, c3, rfl, htr⟩ := paired_get hwr hrow
      rw [drop_get hvr, List.map_cons] at e2
      obtain ⟨rfl, rfl⟩ := List.cons.inj e2
      have hv2' : v2 = .ref tr := hv2
      subst hv2'
      rw [drop_get hrow] at hfin3
      have hfin4 : (rows.drop (k2 + 1)).foldl (dueRow td (l.reverse.drop (k + 1))) (dueRow td (l.reverse.drop (k + 1)) acc2 row) = rows.foldl (dueRow td (l.reverse.drop (k + 1))) acc := hfin3
      refine AllObj.cons fun o4 ho4 => AllObj.nil fun N6 => ?_
      dsimp only at ho4
      have F7 := fr_has F6 hm2
      dsimp only [setL, envOfC] at F7
      dsimp only [envOfC, List.cons_append, List.nil_append] at N6
      have hJ1 : @LT.lt Nat _ Dp I2 := hI2lt _ (.head _)
      have hJ2 : @LT.lt Nat _ Nd I2 := hI2lt _ (.tail _ (.head _))
      have hJ3 : @LT.lt Nat _ (L + 1 + 1) I2 := hI2lt _ (.tail _ (.tail _ (.head _)))
      have hJ4 : @LT.lt Nat _ (I + 1) I2 := hI2lt _ (.tail _ (.tail _ (.tail _ (.head _))))
      clear F5 N5 F6
      generalize hPo2 : UnrPostW _ _ _ _ _ _ = Po2
      k_steps
      unfold Stop
      (rename Fr _ _ _ _ => F8); (rename News _ _ _ _ => N8)
      rename_i o5 hd5 _ _
      refine Assign_two (wsOf hp0 vt) (fun _ z => fstIs hp0 row.1 z) (fun _ r => ∃ t, r = .int 1 t) (by with_unfolding_all rfl) rfl (cl := [(Str.ofString "told", L + 1), (Str.ofString "prefix", L + 1 + 1)]) (by with_unfolding_all rfl) (by decide) (by rfl) (by decide) (by rfl) (by rfl) (by decide) (by rfl) (by rfl) ?_
      refine wpAny_mono (Q := SlRes hp0 L gn dr os [(Str.ofString "node", .int (row.2.2 : Int) u3), (Str.ofString "uri", .str row.2.1 u2), (Str.ofString "arounds", .ref la), (Str.ofString "at", .int (at_ : Int) ti), (Str.ofString "line", .ref Ll), (Str.ofString "nodes", .ref Nd), (Str.ofString "pairs", .ref Dp), (Str.ofString "place", .int (k : Int) tq), (Str.ofString "here", .int (j' : Int) tj)] (l.reverse.drop (k + 1)) [(I2, o4), (Dp, o3), (Nd, W.listOf vn2.toArray cn2), (L + 1 + 1, o5), (I + 1, o1), (I, o2), (Ll, W.listOf vs0.toArray n0), (L + 1, oT)]) ?_ (fun v s' hv' => ?_) fun _ _ e => e
      · clear hPo2
        k_steps
        (rename Fr _ _ _ _ => F9); (rename News _ _ _ _ => N9); (rename IntsAre _ (List.drop _ _) => hI9)
        have e1 : ((k : Int) + 1).toNat = k + 1 := by omega
        rw [e1, ← List.map_drop] at hI9
        exact .mk ⟨rfl, rfl, rfl, rfl, rfl, rfl, rfl, rfl, rfl, trivial⟩ F9 N9 hI9
      cases hv' with
      | mk hm9 F9 N9 hus =>
      rename_i m9 D9 us9 c9 h9 tk9
      clear F8 N8
      have hbel : ∀ u ∈ us9, ∃ (b : Nat) (t : Tok) (ab : Addr), u = .int (b : Int) t ∧ b < 1000 ∧ vt[(b : Int).toNat]? = some (.ref ab) ∧ RowsAt hp0 (.ref ab) (tdAt td b) ∧ wsOf hp0 vt u = itemsAt hp0 (.ref ab) ∧ (tdAt td b).length ≤ 1000 := fun u hu => by
        obtain ⟨iu, hiu, rfl⟩ := List.getElem_of_mem hu
        obtain ⟨b, t, hb, e⟩ := ints_getN hus (List.getElem?_eq_getElem hiu)
        have hbl : b < td.length := hlt b (List.mem_reverse.mp (List.mem_of_mem_drop (List.mem_of_getElem? hb)))
        obtain ⟨rb, hrb⟩ : ∃ rb, td[b]? = some rb := ⟨_, List.getElem?_eq_getElem hbl⟩
        obtain ⟨vb, hvb, hR⟩ := paired_get hvt hrb
        obtain ⟨ab, wb, rfl, hab⟩ := id hR
        have htb : tdAt td b = rb := by rw [tdAt, hrb]; rfl
        refine ⟨b, t, ab, e, by omega, hvb, htb ▸ hR, ?_, htb ▸ hrw rb (List.mem_of_getElem? hrb)⟩
        rw [e]
        show itemsAt hp0 (vt.getD b .none) = _
        rw [List.getD_eq_getElem?_getD, hvb]; rfl
      have frame : ∀ (C : Addr) (s2 : Shared) (m2 : Str → Option Value), h9.objs.size ≤ C → s2.heap.Ns C m2 → Kp h9 s2.heap → ∃ oC, Fr hp0 L s2.heap m9 ∧ News hp0 L s2.heap [(C, oC), (L + 1 + 1, o5), (L + 1, oT)] ∧ LCg.NsObj oC m2 := fun C s2 m2 hC hns hkp => by
        obtain ⟨oC, hoC, hNs⟩ := LCg.ns_obj hns
        refine ⟨oC, fr_grow F9 hkp, fun q hq => ?_, hNs⟩
        simp only [List.mem_cons, List.not_mem_nil, or_false] at hq
        rcases hq with rfl | rfl | rfl
        · refine ⟨hoC, Nat.ne_of_gt (Nat.lt_of_lt_of_le F9.ns.lt hC), ?_⟩
          cases e : hp0.get? C with
          | none => rfl
          | some o => exact absurd (Nat.lt_of_lt_of_le (Heap.lt_size (F9.keep _ _ e)) hC) (Nat.lt_irrefl _)
        · exact (news_grow N9 hkp) _ (by k_mem)
        · exact (news_grow N9 hkp) _ (by k_mem)
      have kp9 : Kp hp0 h9 := F9.keep
      have hul : us9.length ≤ 8 := by rw [ids_size hus, List.length_drop, List.length_reverse]; omega
      refine ⟨D9, us9, m9, rfl, F9.ns, ⟨_, (N9 _ (.head _)).1, rfl, _, rfl⟩, ?_, ⟨?_, ?_, ?_⟩, ?_⟩
      · have h1 := flat_bound (ws := wsOf hp0 vt) (c := 1000) (us := us9) fun u hu => by
          obtain ⟨b, t, ab, _, _, _, hR, hws, hle⟩ := hbel u hu
          rw [hws, (items_rows hR).length]; exact hle
        rw [sizeLine_eq]; omega
      · intro C u s2 m2 E' hC hu hns hm2 hkp
        obtain ⟨b, t, ab, rfl, hb1, hbx, hR, hws, _⟩ := hbel u hu
        obtain ⟨g2, gg, dd, tt, oo⟩ := s2
        obtain ⟨oC, Fc, Nc, hNs⟩ := frame C _ m2 hC hns hkp
        dsimp only at Fc Nc hns hkp ⊢
        clear F9 N9 frame
        k_steps
        · rw [hws]
          obtain ⟨a, wb, e, ⟨n, hab⟩, _⟩ := hR
          cases e
          exact ⟨_, kp9 _ _ hab, rfl, n, by simp [itemsAt, hab, W.listOf]⟩
        · exact ⟨_, _, rfl, fun _ _ e => e⟩
      · intro C u z s2 m2 E' hC hu hz hns hm2 hm3 hkp
        obtain ⟨b, t, ab, rfl, hb1, hbx, hR, hws, _⟩ := hbel u hu
        rw [hws] at hz
        obtain ⟨g2, gg, dd, tt, oo⟩ := s2
        obtain ⟨oC, Fc, Nc, hNs⟩ := frame C _ m2 hC hns hkp
        dsimp only at Fc Nc hns hkp ⊢
        clear F9 N9 frame
        obtain ⟨rz, hrz⟩ : ∃ rz, TupRow hp0 z rz := by
          obtain ⟨rz, _, h⟩ := paired_mem (items_rows hR) hz
          exact ⟨rz, h⟩
        obtain ⟨tz, w1, w2, w3, cz, rfl, htz⟩ := hrz
        refine wpAny_tests_one ?_
        k_steps
        · exact (fstIs_row ⟨tz, w1, w2, w3, cz, rfl, htz⟩).symm
        · exact ⟨_, _, rfl, fun _ _ e => e⟩
      · intro C u z s2 m2 E' hC hu hz hp hns hm2 hm3 hkp
        obtain ⟨g2, gg, dd, tt, oo⟩ := s2
        clear F9 N9 frame
        k_steps
        all_goals first | exact ⟨_, _, rfl, fun _ _ e => e⟩ | exact ⟨_, rfl⟩
      · intro Dz h10 tk10 ys hDz hpl hpair hns10 hk10
        obtain ⟨cz, hpl⟩ := hpl
        dsimp only at hDz hk10
        have hones := ones_of hpair
        have hln := later_nil (p := row.1) hus fun b hb => by
          have hbl : b < td.length := hlt b (List.mem_reverse.mp (List.mem_of_mem_drop hb))
          obtain ⟨rb, hrb⟩ : ∃ rb, td[b]? = some rb := ⟨_, List.getElem?_eq_getElem hbl⟩
          obtain ⟨vb, hvb, hR⟩ := paired_get hvt hrb
          have htb : tdAt td b = rb := by rw [tdAt, hrb]; rfl
          rw [List.getD_eq_getElem?_getD, hvb, htb]
          exact items_rows hR
        generalize (us9.flatMap fun u => (wsOf hp0 vt u).filter (fstIs hp0 row.1)) = fl at hones hln
        have hLb : ∀ {b : Addr} {o : Obj}, hp0.get? b = some o → b ≠ L := fun e q => absurd (Heap.lt_size e) (Nat.not_lt.mpr (q ▸ F9.above))
        have F10 : Fr hp0 L h10 _ := ⟨hns10, fun b o e => hk10 b o (hLb e) (F9.keep _ _ e), F9.above⟩
        have F11 := fr_has1 F10 hm9
        dsimp only [setL] at F11
        have N11 : News hp0 L h10 ((Dz, W.listOf ys.toList.toArray cz) :: [(I2, o4), (Dp, o3), (Nd, W.listOf vn2.toArray cn2), (L + 1 + 1, o5), (I + 1, o1), (I, o2), (Ll, W.listOf vs0.toArray n0), (L + 1, oT)]) := fun q hq => by
          rcases List.mem_cons.mp hq with rfl | hq
          · refine ⟨hpl, ?_, ?_⟩
            · rintro rfl
              obtain ⟨oL, _, _, q, _⟩ := F9.ns
              rw [q] at hDz; cases hDz
            · cases e : hp0.get? Dz with
              | none => rfl
              | some o => rw [F9.keep _ _ e] at hDz; cases hDz
          · have := N9 q (.tail _ hq)
            exact ⟨hk10 _ _ this.2.1 this.1, this.2⟩
        have hDne : ∀ q ∈ [(I2, o4), (Dp, o3), (Nd, W.listOf vn2.toArray cn2), (L + 1 + 1, o5), (I + 1, o1), (I, o2), (Ll, W.listOf vs0.toArray n0), (L + 1, oT)], q.1 ≠ Dz := fun q hq e => by
          have := (N9 q (.tail _ hq)).1
          rw [e, hDz] at this; cases this
        have z1 : @Ne Nat Dz Dp := Ne.symm (hDne (Dp, o3) (by k_mem))
        have z2 : @Ne Nat Dz Nd := Ne.symm (hDne (Nd, W.listOf vn2.toArray cn2) (by k_mem))
        have z3 : @Ne Nat Dz I2 := Ne.symm (hDne (I2, o4) (by k_mem))
        have z4 : @Ne Nat Dz (L + 1 + 1) := Ne.symm (hDne (L + 1 + 1, o5) (by k_mem))
        clear F9 N9 frame F10 hns10
        cases hlb : laterB td (l.reverse.drop (k + 1)) row.1 with
        | true =>
          have hne : fl ≠ [] := fun q => by rw [hln.mp q] at hlb; cases hlb
          have hdec : decide (List.replicate fl.length (1 : Int) = []) = false := decide_eq_false fun q => hne (List.length_eq_zero_iff.mp (by have := congrArg List.length q; simpa using this))
          k_steps
          subst hPo2
          show UnrEndW _ _ _ _ _ _
          (rename Fr _ _ _ _ => F12); (rename News _ _ _ _ => N12)
          have hdr : dueRow td (l.reverse.drop (k + 1)) acc2 row = acc2 := if_neg (fun h => by rw [hlb] at h; cases h.1)
          rw [hdr] at hfin4
          refine UnrEndW.intro F12 N12 [(Dp, o3), (Nd, W.listOf vn2.toArray cn2), (L + 1 + 1, o5), (I + 1, o1), (I, o2), (Ll, W.listOf vs0.toArray n0), (L + 1, oT)] (by k_subL) (by k_subL) (by ktu_offL) ⟨by k_subL, ?_⟩
          refine DuI.mk (k2 := k2 + 1) (acc := acc2) ?hm hvn2 hD2 hk2 (by omega) (by omega) hfin4 hd5
          case hm => exact ⟨rfl, rfl, rfl, rfl, rfl, rfl, rfl, trivial⟩
        | false =>
          have hnil : fl = [] := hln.mpr hlb
          subst hnil
          by_cases hu : row.2.1 = Str.ofString ""
          · have hu1 : (row.2.1 != Str.ofString "") = false := by rw [hu]; exact bne_self_eq_false _
            k_steps
            subst hPo2
            show UnrEndW _ _ _ _ _ _
            (rename Fr _ _ _ _ => F12); (rename News _ _ _ _ => N12)
            have hdr : dueRow td (l.reverse.drop (k + 1)) acc2 row = acc2 := if_neg (fun h => h.2 hu)
            rw [hdr] at hfin4
            refine UnrEndW.intro F12 N12 [(Dp, o3), (Nd, W.listOf vn2.toArray cn2), (L + 1 + 1, o5), (I + 1, o1), (I, o2), (Ll, W.listOf vs0.toArray n0), (L + 1, oT)] (by k_subL) (by k_subL) (by ktu_offL) ⟨by k_subL, ?_⟩
            refine DuI.mk (k2 := k2 + 1) (acc := acc2) ?hm hvn2 hD2 hk2 (by omega) (by omega) hfin4 hd5
            case hm => exact ⟨rfl, rfl, rfl, rfl, rfl, rfl, rfl, trivial⟩
          · have hu1 : (row.2.1 != Str.ofString "") = true := bne_iff_ne.mpr hu
            obtain ⟨kvs3, hd3, hf3⟩ := hD2.ex
            k_steps
            subst hPo2
            show UnrEndW _ _ _ _ _ _
            (rename Fr _ _ _ _ => F12); (rename News _ _ _ _ => N12); (rename Obj.IsDictOf _ _ _ => hd6); (rename PyProof.V.FlatPairs _ _ _ => hf6)
            rw [List.push_toArray] at N12
            have hdr : dueRow td (l.reverse.drop (k + 1)) acc2 row = (acc2.1 ++ [row.2.2], PyProof.V.putD (.str row.1) (.str row.2.1) acc2.2) := if_pos ⟨hlb, hu⟩
            rw [hdr] at hfin4
            refine UnrEndW.intro F12 N12 [(Dp, _), (Nd, W.listOf (vn2 ++ [Value.int (row.2.2 : Int) u3]).toArray (cn2 + 1)), (L + 1 + 1, o5), (I + 1, o1), (I, o2), (Ll, W.listOf vs0.toArray n0), (L + 1, oT)] (by k_subL) (by k_subL) (by ktu_offL) ⟨by k_subL, ?_⟩
            refine DuI.mk (k2 := k2 + 1) (acc := (acc2.1 ++ [row.2.2], PyProof.V.putD (.str row.1) (.str row.2.1) acc2.2)) ?hm (ids_snoc hvn2 row.2.2 u3) ⟨_, hd6, hf6⟩ hk2 (by rw [List.length_append, List.length_singleton]; omega) (Nat.le_trans (PyProof.V.putD_length_le _ _ _) (by omega)) hfin4 hd5
            case hm => exact ⟨rfl, rfl, rfl, rfl, rfl, rfl, rfl, trivial⟩
end
noncomputable abbrev srcO (x y : Int) (t1 t2 : Tok) (n : Nat) : Obj := W.listOf #[.int x t1, .int y t2] n
section
variable {w : World} {p : Program} {loose : List Str} {mean : ExcName → Option Value} {mg mb : Str → Option Value} {A : Around} {s : Shared}
theorem take_c {S : Addr} {x y : Int} {t1 t2 : Tok} {n : Nat} (B : Bs w p loose mean mg mb (hideAll s.heap [S])) (hS : s.heap.get? S = some (srcO x y t1 t2 n)) (hx : 0 ≤ x) (hy : 0 ≤ y) (hd : Rm A 1) {top : Int} {tt : Tok} (ht : 1 ≤ top) (ht9 : top ≤ 9)
    (Q E : Value → Shared → Prop)
    (ret : ∀ (r : Int) tr h' tk' x' y' t1' t2' n', (∀ b o, b ≠ S → s.heap.get? b = some o → h'.get? b = some o) → h'.get? S = some (srcO x' y' t1' t2' n') → 0 ≤ x' → 0 ≤ y' → 0 ≤ r → r < top → Q (.int r tr) { s with heap := h', toks := tk' }) :
    wpAny (model prg w) A (call (.ref 330) [.ref S, .int top tt]) Q E s := by
  refine fill0 ?_; k_fill; intro _
  obtain ⟨hp0, gn, dr, tk0, os⟩ := s
  dsimp only at B hS ret
  obtain ⟨hA, dp, frs, gds, un⟩ := A; obtain rfl : hA = none := hd.handled
  refine enterM (hid := [(S, srcO x y t1 t2 n)]) B (List.forall_mem_cons.mpr ⟨hS, List.forall_mem_nil _⟩) (st := stmtAt 21) (f := 330) (binds := [(Str.ofString "source", .ref S), (Str.ofString "top", .int top tt)]) (by k_is) rfl (by k_is) hd.room (by rfl) (by rfl) ?_
  intro L h₁ tk hL F N hlt
  have X := B.X
  have T' := B.T
  simp only [List.map_cons, List.map_nil] at F N
  generalize hG : hideAll hp0 [S] = G at *
  have dn : ∀ b o, b ≠ S → hp0.get? b = some o → G.get? b = some o := fun b o hb e => by rw [← hG]; exact hideAll_get _ e fun hm => hb (List.mem_singleton.mp hm)
  have hm1 : ∀ a : Int, 0 ≤ a.fmod top ∧ a.fmod top < top := fun a => ⟨Int.fmod_nonneg_of_pos _ (by omega), Int.fmod_lt_of_pos _ (by omega)⟩
  by_cases h0 : 0 < x
  · have h1 : decide (x > 0) = true := decide_eq_true h0
    k_steps
    · (rename Fr _ _ _ _ => F1); (rename News _ _ _ _ => N1)
      exact ret _ _ _ _ _ _ _ _ _ (fun b o hb e => F1.keep _ _ (dn b o hb e)) (N1 _ (.head _)).1 (Int.fdiv_nonneg hx (by omega)) hy (hm1 _).1 (hm1 _).2
    · (rename (¬ _) => hn)
      exact absurd h0 hn
  · have h1 : decide (x > 0) = false := decide_eq_false h0
    k_steps
    · (rename Fr _ _ _ _ => F1); (rename News _ _ _ _ => N1)
      exact ret _ _ _ _ _ _ _ _ _ (fun b o hb e => F1.keep _ _ (dn b o hb e)) (N1 _ (.head _)).1 (Int.fdiv_nonneg hx (by omega)) hy (hm1 _).1 (hm1 _).2
    · (rename Fr _ _ _ _ => F1); (rename News _ _ _ _ => N1)
      exact ret _ _ _ _ _ _ _ _ _ (fun b o hb e => F1.keep _ _ (dn b o hb e)) (N1 _ (.head _)).1 hx (Int.fmod_nonneg_of_pos _ (by decide)) (hm1 _).1 (hm1 _).2
end
noncomputable def lstOf (k : Nat) (r : Row) : Addr := match k with
  | 0 => r.c
  | 1 => r.t
  | _ => r.n
noncomputable def idsOf (k : Nat) (r : Row) : List Nat := match k with
  | 0 => r.ch
  | 1 => r.ats
  | _ => r.nss
noncomputable def addTo (k : Nat) (r : Row) (j : Nat) : Row := match k with
  | 0 => { r with ch := r.ch ++ [j] }
  | 1 => { r with ats := r.ats ++ [j] }
  | _ => { r with nss := r.nss ++ [j] }
/-- the objects of a row, told in a ledger -/
structure RowM (P : Params) (tl : List (Addr × Obj)) (r : Row) : Prop where
  inst : (r.a, instObj 123 r.d) ∈ tl
  dict : ∃ o, (r.d, o) ∈ tl ∧ RowDict P r o
  lists : ∀ k, k < 3 → ∃ vs n, (lstOf k r, W.listOf vs.toArray n) ∈ tl ∧ IntsAre vs ((idsOf k r).map Int.ofNat)
/-- the objects of a tree, told in a ledger -/
structure TreeM (P : Params) (T dT R : Addr) (rs : List Row) (tl : List (Addr × Obj)) : Prop where
  inst : (T, instObj 312 dT) ∈ tl
  dict : ∃ t n, (dT, dictOf [de P "rows" t (.ref R)] n) ∈ tl
  rows : ∃ c, (R, W.listOf (rs.map fun r => Value.ref r.a).toArray c) ∈ tl
  all : ∀ (i : Nat) r, rs[i]? = some r → RowM P tl r
  dist : ∀ (i j : Nat) r q k l, rs[i]? = some r → rs[j]? = some q → k < 3 → l < 3 → lstOf k r = lstOf l q → i = j ∧ k = l
  own : ∀ (i : Nat) r k, rs[i]? = some r → k < 3 → R ≠ lstOf k r
/-- no object of the one stands at an address of the other -/
noncomputable def Disj (own tl : List (Addr × Obj)) : Prop := ∀ p ∈ own, ∀ q ∈ tl, q.1 ≠ p.1
noncomputable def InjL (tl : List (Addr × Obj)) : Prop := ∀ p ∈ tl, ∀ q ∈ tl, p.1 = q.1 → p.2 = q.2
theorem news_inj {h₀ h : Heap} {L : Addr} {tl : List (Addr × Obj)} (N : News h₀ L h tl) : InjL tl := fun p hp q hq e => by
  have h1 := (N p hp).1
  rw [e, (N q hq).1] at h1
  exact (Option.some.inj h1).symm
theorem InjL.ne {tl : List (Addr × Obj)} (h : InjL tl) {a b : Addr} {o o' : Obj} (m1 : (a, o) ∈ tl) (m2 : (b, o') ∈ tl) (hc : o.cls ≠ o'.cls) : a ≠ b := fun e => hc (congrArg Obj.cls (h _ m1 _ m2 e))
theorem rowDict_cls {P : Params} {r : Row} {o : Obj} (h : RowDict P r o) : o.cls = .type "dict" := by
  obtain ⟨_, _, _, _, _, _, _, _, _, _, _, _, _, _, _, _, rfl⟩ := h; rfl
theorem addTo_same {k : Nat} {r : Row} {j : Nat} : (addTo k r j).a = r.a ∧ (addTo k r j).d = r.d ∧ ∀ l, lstOf l (addTo k r j) = lstOf l r := by
  match k with
  | 0 => exact ⟨rfl, rfl, fun l => by match l with | 0 => rfl | 1 => rfl | _ + 2 => rfl⟩
  | 1 => exact ⟨rfl, rfl, fun l => by match l with | 0 => rfl | 1 => rfl | _ + 2 => rfl⟩
  | _ + 2 => exact ⟨rfl, rfl, fun l => by match l with | 0 => rfl | 1 => rfl | _ + 2 => rfl⟩
theorem addTo_ids {k : Nat} {r : Row} {j l : Nat} (hk : k < 3) (hl : l < 3) : idsOf l (addTo k r j) = if l = k then idsOf k r ++ [j] else idsOf l r := by
  match k, l with
  | 0, 0 => rfl
  | 0, 1 => rfl
  | 0, 2 => rfl
  | 1, 0 => rfl
  | 1, 1 => rfl
  | 1, 2 => rfl
  | 2, 0 => rfl
  | 2, 1 => rfl
  | 2, 2 => rfl
  | k + 3, _ => omega
  | _, l + 3 => omega
theorem addTo_dict {P : Params} {k : Nat} {r : Row} {j : Nat} {o : Obj} (h : RowDict P r o) : RowDict P (addTo k r j) o := by
  match k with
  | 0 => exact h
  | 1 => exact h
  | _ + 2 => exact h
/-- what is off an address -/
noncomputable def offA (a : Addr) (tl : List (Addr × Obj)) : List (Addr × Obj) := tl.filter fun p => decide (@Ne Nat p.1 a)
theorem mem_offA {a : Addr} {tl : List (Addr × Obj)} {p : Addr × Obj} : p ∈ offA a tl ↔ p ∈ tl ∧ @Ne Nat p.1 a := by
  unfold offA; rw [List.mem_filter, decide_eq_true_iff]
theorem offA_ne {a : Addr} {tl : List (Addr × Obj)} : ∀ p ∈ offA a tl, p.1 ≠ a := fun p hp => (mem_offA.mp hp).2
theorem RowM.mono {P : Params} {tl tl' : List (Addr × Obj)} {r : Row} {b : Addr} {ob : Obj} (h : RowM P tl r) (i : InjL tl) (mb : (b, ob) ∈ tl) (hb : ob.cls = .type "list") (hne : ∀ k, k < 3 → b ≠ lstOf k r) (hs : ∀ p ∈ tl, p.1 ≠ b → p ∈ tl') : RowM P tl' r := by
  refine ⟨hs _ h.inst (i.ne h.inst mb (by rw [hb]; nofun)), ?_, fun k hk => ?_⟩
  · obtain ⟨o, m, q⟩ := h.dict
    exact ⟨o, hs _ m (i.ne m mb (by rw [hb, rowDict_cls q]; decide)), q⟩
  · obtain ⟨vs, n, m, q⟩ := h.lists k hk
    exact ⟨vs, n, hs _ m (Ne.symm (hne k hk)), q⟩
theorem TreeM.push_row {P : Params} {T dT R : Addr} {rs : List Row} {tl : List (Addr × Obj)} (hT : TreeM P T dT R rs tl) (hi : InjL tl) {r : Row} {od : Obj} {c : Nat} (hlt : ∀ p ∈ tl, @LT.lt Nat _ p.1 r.d) (l1 : @LT.lt Nat _ r.d r.c) (l2 : @LT.lt Nat _ r.c r.t) (l3 : @LT.lt Nat _ r.t r.n)
    (hod : RowDict P r od) (e1 : r.ch = []) (e2 : r.ats = []) (e3 : r.nss = []) :
    TreeM P T dT R (rs ++ [r]) ((r.n, W.listOf ([] : List Value).toArray 0) :: (r.t, W.listOf ([] : List Value).toArray 0) :: (r.c, W.listOf ([] : List Value).toArray 0) :: (r.a, instObj 123 r.d) :: (r.d, od) ::
      (R, W.listOf ((rs.map fun r => Value.ref r.a).toArray.push (.ref r.a)) c) :: offA R tl) := by
  obtain ⟨cR, mR⟩ := hT.rows
  have sub : ∀ p ∈ tl, p.1 ≠ R → p ∈ ((r.n, W.listOf ([] : List Value).toArray 0) :: (r.t, W.listOf ([] : List Value).toArray 0) :: (r.c, W.listOf ([] : List Value).toArray 0) :: (r.a, instObj 123 r.d) :: (r.d, od) ::
      (R, W.listOf ((rs.map fun r => Value.ref r.a).toArray.push (.ref r.a)) c) :: offA R tl) := fun p hp e => .tail _ (.tail _ (.tail _ (.tail _ (.tail _ (.tail _ (mem_offA.mpr ⟨hp, e⟩))))))
  have hL : ∀ l, l < 3 → @LT.lt Nat _ r.d (lstOf l r) := fun l hl => by
    match l with
    | 0 => exact l1
    | 1 => exact Nat.lt_trans l1 l2
    | 2 => exact Nat.lt_trans l1 (Nat.lt_trans l2 l3)
  have hnew : ∀ k l, k < 3 → l < 3 → lstOf k r = lstOf l r → k = l := fun k l hk hl e => by
    have e' : @Eq Nat (lstOf k r) (lstOf l r) := e
    match k, l with
    | 0, 0 => rfl
    | 1, 1 => rfl
    | 2, 2 => rfl
    | 0, 1 => exact absurd e' (Nat.ne_of_lt l2)
    | 0, 2 => exact absurd e' (Nat.ne_of_lt (Nat.lt_trans l2 l3))
    | 1, 0 => exact absurd e' (Nat.ne_of_gt l2)
    | 1, 2 => exact absurd e' (Nat.ne_of_lt l3)
    | 2, 0 => exact absurd e' (Nat.ne_of_gt (Nat.lt_trans l2 l3))
    | 2, 1 => exact absurd e' (Nat.ne_of_gt l3)
    | k + 3, _ => omega
    | _, l + 3 => omega
  have hold : ∀ {i : Nat} {q : Row} {k : Nat}, rs[i]? = some q → k < 3 → @LT.lt Nat _ (lstOf k q) r.d := fun hq hk => by
    obtain ⟨vs, n, m, _⟩ := (hT.all _ _ hq).lists _ hk
    exact hlt _ m
  have hcase : ∀ {i : Nat} {q : Row}, (rs ++ [r])[i]? = some q → rs[i]? = some q ∨ (i = rs.length ∧ q = r) := fun {i q} hq => by
    by_cases h : i < rs.length
    · rw [List.getElem?_append_left h] at hq; exact .inl hq
    · have h1 := (List.getElem?_eq_some_iff.mp hq).1
      rw [List.length_append, List.length_singleton] at h1
      have h2 : i = rs.length := by omega
      subst h2
      rw [List.getElem?_append_right (Nat.le_refl _), Nat.sub_self] at hq
      exact .inr ⟨rfl, (Option.some.inj hq).symm⟩
  refine ⟨sub _ hT.inst (hi.ne hT.inst mR (by nofun)), ?_, ⟨c, ?_⟩, fun i q hq => ?_, fun i j q q' k l hq hq' hk hl e => ?_, fun i q k hq hk => ?_⟩
  · obtain ⟨t, n, m⟩ := hT.dict
    exact ⟨t, n, sub _ m (hi.ne m mR (by show Value.type "dict" ≠ Value.type "list"; decide))⟩
  · rw [List.map_append, List.push_toArray]
    exact .tail _ (.tail _ (.tail _ (.tail _ (.tail _ (.head _)))))
  · rcases hcase hq with hq | ⟨rfl, rfl⟩
    · exact (hT.all i q hq).mono hi mR rfl (fun k hk => hT.own i q k hq hk) sub
    · refine ⟨.tail _ (.tail _ (.tail _ (.head _))), ⟨od, .tail _ (.tail _ (.tail _ (.tail _ (.head _)))), hod⟩, fun k hk => ?_⟩
      match k with
      | 0 => exact ⟨[], 0, .tail _ (.tail _ (.head _)), by show IntsAre [] (q.ch.map _); rw [e1]; exact .nil⟩
      | 1 => exact ⟨[], 0, .tail _ (.head _), by show IntsAre [] (q.ats.map _); rw [e2]; exact .nil⟩
      | 2 => exact ⟨[], 0, .head _, by show IntsAre [] (q.nss.map _); rw [e3]; exact .nil⟩
  · rcases hcase hq with g1 | ⟨rfl, rfl⟩ <;> rcases hcase hq' with g2 | ⟨rfl, rfl⟩
    · exact hT.dist i j q q' k l g1 g2 hk hl e
    · have a1 := hold g1 hk
      have a2 := hL l hl
      rw [e] at a1
      exact absurd (Nat.lt_trans a1 a2) (Nat.lt_irrefl _)
    · have a1 := hold g2 hl
      have a2 := hL k hk
      rw [← e] at a1
      exact absurd (Nat.lt_trans a1 a2) (Nat.lt_irrefl _)
    · exact ⟨rfl, hnew k l hk hl e⟩
  · rcases hcase hq with hq | ⟨rfl, rfl⟩
    · exact hT.own i q k hq hk
    · exact Nat.ne_of_lt (Nat.lt_trans (hlt _ mR) (hL k hk))
theorem TreeM.push_list {P : Params} {T dT R : Addr} {rs : List Row} {tl : List (Addr × Obj)} (hT : TreeM P T dT R rs tl) (hi : InjL tl) {i : Nat} {r : Row} {k : Nat} (hr : rs[i]? = some r) (hk : k < 3) {vs : List Value} {n n' : Nat} (m : (lstOf k r, W.listOf vs.toArray n) ∈ tl) (hv : IntsAre vs ((idsOf k r).map Int.ofNat)) {j : Nat} {u : Tok} :
    TreeM P T dT R (rs.set i (addTo k r j)) ((lstOf k r, W.listOf (vs ++ [Value.int (j : Int) u]).toArray n') :: offA (lstOf k r) tl) := by
  have sub : ∀ p ∈ tl, p.1 ≠ lstOf k r → p ∈ ((lstOf k r, W.listOf (vs ++ [Value.int (j : Int) u]).toArray n') :: offA (lstOf k r) tl) := fun p hp e => .tail _ (mem_offA.mpr ⟨hp, e⟩)
  have hil := (List.getElem?_eq_some_iff.mp hr).1
  obtain ⟨s1, s2, s3⟩ := addTo_same (k := k) (r := r) (j := j)
  have hcase : ∀ {x : Nat} {q : Row}, (rs.set i (addTo k r j))[x]? = some q → (x ≠ i ∧ rs[x]? = some q) ∨ (x = i ∧ q = addTo k r j) := fun {x q} hq => by
    rw [List.getElem?_set] at hq
    split at hq
    · rename_i e
      exact .inr ⟨e.symm, (Option.some.inj hq).symm⟩
    · rename_i e
      exact .inl ⟨fun q => e q.symm, hq⟩
  have hrow : ∀ {x : Nat} {q : Row}, (rs.set i (addTo k r j))[x]? = some q → ∃ q0, rs[x]? = some q0 ∧ ∀ l, lstOf l q = lstOf l q0 := fun {x q} hq => by
    rcases hcase hq with ⟨_, hq⟩ | ⟨rfl, rfl⟩
    · exact ⟨q, hq, fun _ => rfl⟩
    · exact ⟨r, hr, s3⟩
  refine ⟨sub _ hT.inst (hi.ne hT.inst m (by nofun)), ?_, ?_, fun x q hq => ?_, fun x y q q' k' l hq hq' hk' hl e => ?_, fun x q k' hq hk' => ?_⟩
  · obtain ⟨t, n, m'⟩ := hT.dict
    exact ⟨t, n, sub _ m' (hi.ne m' m (by show Value.type "dict" ≠ Value.type "list"; decide))⟩
  · obtain ⟨c, mR⟩ := hT.rows
    refine ⟨c, ?_⟩
    have e : (rs.set i (addTo k r j)).map (fun r => Value.ref r.a) = rs.map fun r => Value.ref r.a := by
      rw [List.map_set]
      show (rs.map _).set i (Value.ref (addTo k r j).a) = _
      rw [s1]
      have h1 : (rs.map fun r => Value.ref r.a)[i]? = some (Value.ref r.a) := by rw [List.getElem?_map, hr]; rfl
      obtain ⟨h2, h3⟩ := List.getElem?_eq_some_iff.mp h1
      rw [← h3, List.set_getElem_self]
    rw [e]
    exact sub _ mR (hT.own i r k hr hk)
  · rcases hcase hq with ⟨hx, hq⟩ | ⟨rfl, rfl⟩
    · exact (hT.all x q hq).mono hi m rfl (fun l hl e => hx (hT.dist x i q r l k hq hr hl hk e.symm).1) sub
    · have h := hT.all x r hr
      refine ⟨by rw [s1, s2]; exact sub _ h.inst (hi.ne h.inst m (by nofun)), ?_, fun l hl => ?_⟩
      · obtain ⟨o, mo, q⟩ := h.dict
        exact ⟨o, by rw [s2]; exact sub _ mo (hi.ne mo m (by rw [rowDict_cls q]; show Value.type "dict" ≠ Value.type "list"; decide)), addTo_dict q⟩
      · rw [s3, addTo_ids hk hl]
        by_cases e : l = k
        · subst e
          rw [if_pos rfl]
          exact ⟨_, _, .head _, ids_snoc hv j u⟩
        · rw [if_neg e]
          obtain ⟨ws, c, mw, hw⟩ := h.lists l hl
          exact ⟨ws, c, sub _ mw (fun e' => e (hT.dist x x r r l k hr hr hl hk e').2), hw⟩
  · obtain ⟨q0, h1, h2⟩ := hrow hq
    obtain ⟨q1, h3, h4⟩ := hrow hq'
    rw [h2, h4] at e
    exact hT.dist x y q0 q1 k' l h1 h3 hk' hl e
  · obtain ⟨q0, h1, h2⟩ := hrow hq
    rw [h2]; exact hT.own x q0 k' h1 hk'
theorem TreeM.at {P : Params} {T dT R : Addr} {rs : List Row} {tl : List (Addr × Obj)} (hT : TreeM P T dT R rs tl) {h : Heap} (N : ∀ p ∈ tl, h.get? p.1 = some p.2) (hz : rs.length ≤ 1000) (hs : ∀ r ∈ rs, (r.ch.length ≤ 1000 ∧ r.ats.length ≤ 1000 ∧ r.nss.length ≤ 1000) ∧ ∀ i, i ∈ r.ch ∨ i ∈ r.nss → i < 1000) : TreeAt P h T dT R rs := by
  refine ⟨N _ hT.inst, ?_, ?_, fun r hr => ?_, hz⟩
  · obtain ⟨t, n, m⟩ := hT.dict; exact ⟨t, n, N _ m⟩
  · obtain ⟨c, m⟩ := hT.rows; exact ⟨c, N _ m⟩
  · obtain ⟨i, hi, rfl⟩ := List.getElem_of_mem hr
    have h := hT.all i _ (List.getElem?_eq_getElem hi)
    have hl : ∀ k, k < 3 → IdsAt _ (lstOf k rs[i]) (idsOf k rs[i]) := fun k hk => by
      obtain ⟨vs, n, m, q⟩ := h.lists k hk
      exact ⟨vs, ⟨n, N _ m⟩, q⟩
    exact ⟨N _ h.inst, let ⟨o, m, q⟩ := h.dict; ⟨o, N _ m, q⟩, hl 0 (by decide), hl 1 (by decide), hl 2 (by decide), (hs _ hr).1, (hs _ hr).2⟩
theorem len_newsA {w : World} {A : Around} {E : Value → Shared → Prop} {s : Shared} {h₀ : Heap} {L a : Addr} {news : List (Addr × Obj)} {its : Array Value} {n : Nat} {Q : Value → Shared → Prop} (N : News h₀ L s.heap news) (hm : (a, W.listOf its n) ∈ news) (hs : its.size < 2 ^ 63)
    (h : Q (.int its.size (s.toks + 1)) { s with toks := s.toks + 1 + 1 }) : wpAny (model prg w) A (call (.builtin "len") [.ref a]) Q E s :=
  call_len_list (items := its) ⟨_, (N _ hm).1, rfl, n, rfl⟩ (by omega) h
section
variable {w : World} {p : Program} {loose : List Str} {mean : ExcName → Option Value} {mg mb : Str → Option Value} {A A₀ : Around} {s : Shared} {base h₀ : Heap} {outer : List Env} {env : Env} {L : Addr} {m : Str → Option Value} {own : List (Addr × Obj)}
/-- a frame that a call is made from -/
structure Call (w : World) (p : Program) (loose : List Str) (mean : ExcName → Option Value) (mg mb : Str → Option Value) (A A₀ : Around) (base : Heap) (outer : List Env) (env : Env) (h₀ : Heap) (L : Addr) : Prop where
  below : Below A₀ base outer h₀
  X : (K w.params).In h₀
  T : Top p loose mean mg mb h₀
  frames : A.frames = some (env :: outer)
  frame : env.frame = some L
  kind : env.scope.kind = .function
end
theorem push_get {its : Array Value} {k : Nat} {v x : Value} (h : its[k]? = some v) : (its.push x)[k]? = some v := by
  have hk := (Array.getElem?_eq_some_iff.mp h).1
  rw [Array.getElem?_push]
  rw [if_neg (Nat.ne_of_lt hk)]; exact h
theorem item_newsA {w : World} {A : Around} {E : Value → Shared → Prop} {s : Shared} {h₀ : Heap} {L a : Addr} {news : List (Addr × Obj)} {its : Array Value} {n : Nat} {value slice : PySem.Expr} {k : Int} {u : Tok} {v : Value} {Q : Value → Shared → Prop}
    (N : News h₀ L s.heap news) (hm : (a, W.listOf its n) ∈ news) (h0 : 0 ≤ k) (hhi : k < 2 ^ 63) (hx : its[k.toNat]? = some v) (h : Q v s)
    (hs : subscripted slice false (.ref a) (.int k u) = operate [.ref a, .int k u] (getItem (.ref a) (.int k u)) := by with_unfolding_all rfl) :
    wpAny (model prg w) A (subscriptTail value slice (.ref a) (.int k u)) Q E s :=
  have hL : s.heap.IsList a its := ⟨_, (N _ hm).1, rfl, n, rfl⟩
  tail_any hL.typeIs slot_list_getitem.lookup (wpAny_getItem_list hL h0 hhi hx h) hs
theorem notin_parents {w : World} {A : Around} {E : Value → Shared → Prop} {s : Shared} {h₀ : Heap} {L : Addr} {m : Str → Option Value} {x : Str} {u : Tok} {Q : Value → Shared → Prop} (F : Fr h₀ L s.heap m) (X : (K w.params).In h₀)
    (h : Q (.bool (!([Str.ofString "root", Str.ofString "element"].any (· == x)))) s) : wpAny (model prg w) A (compareOp .NotIn (.str x u) (.ref 106)) Q E s :=
  notin_tuple_strs (items := #[.str (Str.ofString "root") 324, .str (Str.ofString "element") 325]) (ys := [Str.ofString "root", Str.ofString "element"]) ⟨_, F.keep _ _ (X 106 _ rfl), rfl, 0, rfl⟩ (.cons _ _ (.cons _ _ .nil)) h
/-- a new row of the tree -/
noncomputable abbrev rowN (a d c t n : Addr) (kind name uri loc value : Str) (par : Option Nat) : Row := ⟨a, d, c, t, n, kind, name, uri, loc, value, par, [], [], []⟩
theorem new_row_end {P : Params} {T dT R d x c t n : Addr} {rs : List Row} {tl own : List (Addr × Obj)} {h₀ h h' : Heap} {L : Addr} {kind name uri loc value : Str} {par : Option Nat} {od oT oD : Obj} {cR n1 n2 n3 : Nat}
    (hT : TreeM P T dT R rs tl) (N0 : News h₀ L h (own ++ tl)) (hD : Disj own tl)
    (N : News h₀ L h' ((n, W.listOf ([] : List Value).toArray n1) :: (t, W.listOf ([] : List Value).toArray n2) :: (c, W.listOf ([] : List Value).toArray n3) :: (x, instObj 123 d) :: (d, od) :: (T, oT) :: (dT, oD) ::
      (R, W.listOf ((rs.map fun r => Value.ref r.a).toArray.push (.ref x)) cR) :: (own ++ offA R tl)))
    (l1 : @LT.lt Nat _ R d) (l2 : AllLt d (own ++ offA R tl)) (l3 : @LT.lt Nat _ d x) (l4 : @LT.lt Nat _ x c) (l5 : @LT.lt Nat _ c t) (l6 : @LT.lt Nat _ t n) (hn : n1 = 0 ∧ n2 = 0 ∧ n3 = 0) (hod : RowDict P (rowN x d c t n kind name uri loc value par) od) :
    ∃ tl', TreeM P T dT R (rs ++ [rowN x d c t n kind name uri loc value par]) tl' ∧ News h₀ L h' (own ++ tl') ∧ Disj own tl' := by
  obtain ⟨rfl, rfl, rfl⟩ := hn
  obtain ⟨c0, mR⟩ := hT.rows
  have hlt : ∀ p ∈ own ++ tl, @LT.lt Nat _ p.1 d := fun p hp => by
    by_cases e : @Eq Nat p.1 R
    · rw [show p.1 = R from e]; exact l1
    · refine allLt_mem l2 p ?_
      rcases List.mem_append.mp hp with hp | hp
      · exact List.mem_append_left _ hp
      · exact List.mem_append_right _ (mem_offA.mpr ⟨hp, e⟩)
  refine ⟨_, hT.push_row (c := cR) (r := rowN x d c t n kind name uri loc value par) (news_inj (news_sub N0 fun p hp => List.mem_append_right _ hp)) (fun p hp => hlt p (List.mem_append_right _ hp)) (Nat.lt_trans l3 l4) l5 l6 hod rfl rfl rfl, news_sub N fun p hp => ?_, fun p hp q hq => ?_⟩
  · rcases List.mem_append.mp hp with hp | hp
    · exact .tail _ (.tail _ (.tail _ (.tail _ (.tail _ (.tail _ (.tail _ (.tail _ (List.mem_append_left _ hp))))))))
    · rcases List.mem_cons.mp hp with rfl | hp
      · exact .head _
      rcases List.mem_cons.mp hp with rfl | hp
      · exact .tail _ (.head _)
      rcases List.mem_cons.mp hp with rfl | hp
      · exact .tail _ (.tail _ (.head _))
      rcases List.mem_cons.mp hp with rfl | hp
      · exact .tail _ (.tail _ (.tail _ (.head _)))
      rcases List.mem_cons.mp hp with rfl | hp
      · exact .tail _ (.tail _ (.tail _ (.tail _ (.head _))))
      rcases List.mem_cons.mp hp with rfl | hp
      · exact .tail _ (.tail _ (.tail _ (.tail _ (.tail _ (.tail _ (.tail _ (.head _)))))))
      · exact .tail _ (.tail _ (.tail _ (.tail _ (.tail _ (.tail _ (.tail _ (.tail _ (List.mem_append_right _ hp))))))))
  · have hp' := hlt p (List.mem_append_left _ hp)
    have g : ∀ {b : Addr}, @LE.le Nat _ d b → b ≠ p.1 := fun hb => Nat.ne_of_gt (Nat.lt_of_lt_of_le hp' hb)
    rcases List.mem_cons.mp hq with rfl | hq
    · exact g (Nat.le_of_lt (Nat.lt_trans l3 (Nat.lt_trans l4 (Nat.lt_trans l5 l6))))
    rcases List.mem_cons.mp hq with rfl | hq
    · exact g (Nat.le_of_lt (Nat.lt_trans l3 (Nat.lt_trans l4 l5)))
    rcases List.mem_cons.mp hq with rfl | hq
    · exact g (Nat.le_of_lt (Nat.lt_trans l3 l4))
    rcases List.mem_cons.mp hq with rfl | hq
    · exact g (Nat.le_of_lt l3)
    rcases List.mem_cons.mp hq with rfl | hq
    · exact g (Nat.le_refl _)
    rcases List.mem_cons.mp hq with rfl | hq
    · show R ≠ p.1
      exact hD p hp _ mR
    · exact hD p hp q (mem_offA.mp hq).1
local macro_rules | `(tactic| k_room) => `(tactic| k_extra "kroom")
theorem rows_q : True := by
  (k_with "kroom" => ((try simp only [depth_mark, depth_under_make, depth_under_kw, depth_in1, depth_deeper, depth_caller]); (have h9 := Rm.depth (by assumption)); (try dsimp only at h9 ⊢); omega))
  trivial
theorem rows_r : True := by
  (k_with "call builtin:len" => (k_here; (with_reducible show wpAny _ _ (call (Value.builtin "len") [Value.ref _]) _ _ _); k_dflt (refine' len_newsA ?qN ?qm ?qz ?_; (case qN => k_asm); (case qm => k_mem); (case qz => ((simp only [Array.size_push, List.size_toArray, List.length_map]); omega)); k_whole)))
  (k_with "subscriptTail" => (k_here; (with_reducible show wpAny _ _ (subscriptTail _ _ (Value.ref _) (Value.int _ _)) _ _ _); k_dflt (refine' item_newsA ?qN ?qm ?qa ?qb ?qx ?_; (case qN => k_asm); (case qm => k_mem); (case qa => omega); (case qb => omega); (case qx => first | assumption | exact push_get (by assumption)); k_whole)))
  (k_with "compareOp NotIn str ref" => (k_here; k_dflt (refine' notin_parents ?qF ?qX ?_; (case qF => k_asm); (case qX => k_asm); k_whole)))
  trivial
section
variable {w : World} {p : Program} {loose : List Str} {mean : ExcName → Option Value} {mg mb : Str → Option Value} {A A₀ : Around} {s : Shared} {base h₀ : Heap} {outer : List Env} {env : Env} {L : Addr} {m : Str → Option Value}
theorem new_row_c0 {T dT R : Addr} {rs : List Row} {tl own : List (Addr × Obj)} (C : Call w p loose mean mg mb A A₀ base outer env h₀ L) (F : Fr h₀ L s.heap m) (hd : Rm A 4) (hz : rs.length ≤ 900)
    (hT : TreeM w.params T dT R rs tl) (N : News h₀ L s.heap (own ++ tl)) (hD : Disj own tl)
    {kind name uri loc value : Str} {t1 t2 t3 t4 t5 t6 : Tok} {par : Option Nat} (Q E : Value → Shared → Prop)
    (ret : ∀ a d c t n tl' h' tk' u, TreeM w.params T dT R (rs ++ [rowN a d c t n kind name uri loc value par]) tl' → Fr h₀ L h' m → News h₀ L h' (own ++ tl') → Disj own tl' → Q (.int (rs.length : Nat) u) { s with heap := h', toks := tk' }) :
    wpAny (model prg w) A (call (.ref 148) [.ref T, .str kind t1, .str name t2, .str uri t3, .str loc t4, .str value t5, parV par t6]) Q E s := by
  refine fill0 ?_; k_fill; intro _
  obtain ⟨hp0, gn, dr, tk0, os⟩ := s
  dsimp only at F N ret
  have X := C.X
  have T' := C.T
  have BL := C.below
  have hfr := C.frames
  have hf := C.frame
  have hk1 := C.kind
  obtain ⟨hA, dp, frs, gds, un⟩ := A; obtain rfl : hA = none := hd.handled
  dsimp only at hfr
  subst hfr
  obtain ⟨tR, nR, mD⟩ := hT.dict
  obtain ⟨cR, mR⟩ := hT.rows
  have mT := hT.inst
  have inj := news_inj N
  have nTR : @Ne Nat T R := inj.ne (List.mem_append_right _ mT) (List.mem_append_right _ mR) (by nofun)
  have nDR : @Ne Nat dT R := inj.ne (List.mem_append_right _ mD) (List.mem_append_right _ mR) (by show Value.type "dict" ≠ Value.type "list"; decide)
  have hlo : ∀ q ∈ own ++ offA R tl, q.1 ≠ R := fun q hq => by
    rcases List.mem_append.mp hq with hq | hq
    · exact Ne.symm (hD q hq _ mR)
    · exact offA_ne q hq
  have N' : News h₀ L hp0 ((T, instObj 312 dT) :: (dT, dictOf [de w.params "rows" tR (.ref R)] nR) :: (R, W.listOf (rs.map fun r => Value.ref r.a).toArray cR) :: (own ++ offA R tl)) := news_sub N fun q hq => by
    rcases List.mem_cons.mp hq with rfl | hq
    · exact List.mem_append_right _ mT
    rcases List.mem_cons.mp hq with rfl | hq
    · exact List.mem_append_right _ mD
    rcases List.mem_cons.mp hq with rfl | hq
    · exact List.mem_append_right _ mR
    rcases List.mem_append.mp hq with hq | hq
    · exact List.mem_append_left _ hq
    · exact List.mem_append_right _ (mem_offA.mp hq).1
  have N0 := N
  clear N
  generalize hlo' : own ++ offA R tl = lo at N' hlo
  have hNN : ∃ N1 : News h₀ L hp0 (own ++ tl), True := ⟨N0, trivial⟩
  clear N0
  have hlp := handed_par par t6
  refine wpAny_call (code_def BL F X N' T' rfl hf hk1 (K := K w.params) (f := 148) (by k_is) (by k_is) hd.room (BindsTo.of_eq (by rfl)) (locs (by rfl)) ?_ (by rfl) (by rfl) (by rfl) (by decide))
  intro g L' h₁ FG F1 N1 B1 X1 T1
  (with_reducible show wpAny _ _ _ _ _ _); k_fold
  k_steps
  (rename News h₀ _ _ _ => N9); (rename Fr h₀ _ _ _ => F9)
  obtain ⟨N0, _⟩ := hNN
  subst hlo'
  (rename (_ ∧ _ ∧ _ ∧ AllLt _ _) => l9)
  have e9 : ∀ v : Value, ((((rs.map fun r => Value.ref r.a).toArray.push v).size : Nat) : Int) - 1 = (rs.length : Nat) := fun v => by rw [Array.size_push, List.size_toArray, List.length_map]; omega
  rw [e9]
  obtain ⟨tl', hT', N', hD'⟩ := new_row_end (par := par) hT N0 hD N9 l9.2.2.1 l9.2.2.2 (by omega) (by omega) (by omega) (by omega) ⟨rfl, rfl, rfl⟩ ⟨_, _, _, _, _, _, _, _, _, _, _, _, _, _, _, _, rfl⟩
  exact ret _ _ _ _ _ tl' _ _ _ hT' F9 N' hD'
theorem new_row_c {hpS : Heap} {gnS : Array GenState} {drS : Drawn} {tkS : Nat} {osS : OsState} {T dT R : Addr} {rs : List Row} {tl own : List (Addr × Obj)} (C : Call w p loose mean mg mb A A₀ base outer env h₀ L) (F : Fr h₀ L hpS m) (hd : Rm A 4) (hz : rs.length ≤ 900)
    (hT : TreeM w.params T dT R rs tl) (N : News h₀ L hpS (own ++ tl)) (hD : Disj own tl)
    {kind name uri loc value : Str} {t1 t2 t3 t4 t5 t6 : Tok} {par : Option Nat} (Q E : Value → Shared → Prop)
    (ret : ∀ a d c t n tl' h' tk' u, TreeM w.params T dT R (rs ++ [rowN a d c t n kind name uri loc value par]) tl' → Fr h₀ L h' m → News h₀ L h' (own ++ tl') → Disj own tl' → Q (.int (rs.length : Nat) u) (Shared.mk h' gnS drS tk' osS)) :
    wpAny (model prg w) A (call (.ref 148) [.ref T, .str kind t1, .str name t2, .str uri t3, .str loc t4, .str value t5, parV par t6]) Q E (Shared.mk hpS gnS drS tkS osS) :=
  new_row_c0 (s := (Shared.mk hpS gnS drS tkS osS)) C F hd hz hT N hD Q E ret
end
/-- what a walk reads of a row, and the rest off one of its lists -/
theorem read_row {P : Params} {T dT R : Addr} {rs : List Row} {tl own : List (Addr × Obj)} {h₀ h : Heap} {L : Addr} {k i : Nat} {r : Row} (hT : TreeM P T dT R rs tl) (N : News h₀ L h (own ++ tl)) (hD : Disj own tl) (hr : rs[i]? = some r) (hk : k < 3) {la : Addr} (hla : lstOf k r = la) :
    ∃ t n c od vs n1, RowDict P r od ∧ (la, W.listOf vs.toArray n1) ∈ tl ∧ IntsAre vs ((idsOf k r).map Int.ofNat) ∧
      (∀ X, (∀ q ∈ X, q ∈ own ++ tl) → News h₀ L h ((T, instObj 312 dT) :: (dT, dictOf [de P "rows" t (.ref R)] n) :: (R, W.listOf ((rs.map fun r => Value.ref r.a)).toArray c) :: (r.a, instObj 123 r.d) :: (r.d, od) :: (la, W.listOf vs.toArray n1) :: X)) ∧
      (@Ne Nat T (la) ∧ @Ne Nat dT (la) ∧ @Ne Nat R (la) ∧ @Ne Nat r.a (la) ∧ @Ne Nat r.d (la)) ∧ (∀ q ∈ own ++ offA (la) tl, q.1 ≠ la) ∧ (∀ q ∈ own ++ offA (la) tl, q ∈ own ++ tl) ∧
      (rs.map fun r => Value.ref r.a).toArray[(i : Int).toNat]? = some (.ref r.a) ∧ i < rs.length := by
  subst hla
  obtain ⟨t, n, mD⟩ := hT.dict
  obtain ⟨c, mR⟩ := hT.rows
  have hR := hT.all i r hr
  obtain ⟨od, mo, hod⟩ := hR.dict
  obtain ⟨vs, n1, mv, hv⟩ := hR.lists k hk
  have inj := news_inj (news_sub N (l' := tl) fun p hp => List.mem_append_right _ hp)
  refine ⟨t, n, c, od, vs, n1, hod, mv, hv, fun X hX => news_sub N fun q hq => ?_, ⟨inj.ne hT.inst mv (by nofun), inj.ne mD mv (by show Value.type "dict" ≠ Value.type "list"; decide), hT.own i r k hr hk, inj.ne hR.inst mv (by nofun), inj.ne mo mv (by rw [rowDict_cls hod]; show Value.type "dict" ≠ Value.type "list"; decide)⟩, fun q hq => ?_, fun q hq => ?_, by simp [hr], (List.getElem?_eq_some_iff.mp hr).1⟩
  · rcases List.mem_cons.mp hq with rfl | hq
    · exact List.mem_append_right _ hT.inst
    rcases List.mem_cons.mp hq with rfl | hq
    · exact List.mem_append_right _ mD
    rcases List.mem_cons.mp hq with rfl | hq
    · exact List.mem_append_right _ mR
    rcases List.mem_cons.mp hq with rfl | hq
    · exact List.mem_append_right _ hR.inst
    rcases List.mem_cons.mp hq with rfl | hq
    · exact List.mem_append_right _ mo
    rcases List.mem_cons.mp hq with rfl | hq
    · exact List.mem_append_right _ mv
    exact hX q hq
  · rcases List.mem_append.mp hq with hq | hq
    · exact Ne.symm (hD q hq _ mv)
    · exact offA_ne q hq
  · rcases List.mem_append.mp hq with hq | hq
    · exact List.mem_append_left _ hq
    · exact List.mem_append_right _ (mem_offA.mp hq).1
theorem push_end {P : Params} {T dT R : Addr} {rs : List Row} {tl own : List (Addr × Obj)} {h₀ g₀ h h' : Heap} {L Lg : Addr} {k i : Nat} {r : Row} {vs : List Value} {n1 n2 j : Nat} {u : Tok} {o1 o2 o3 o4 o5 : Obj} (hT : TreeM P T dT R rs tl) (N : News g₀ Lg h (own ++ tl)) (hD : Disj own tl) (hr : rs[i]? = some r) (hk : k < 3) {la : Addr} (hla : lstOf k r = la)
    (mv : (la, W.listOf vs.toArray n1) ∈ tl) (hv : IntsAre vs ((idsOf k r).map Int.ofNat))
    (N9 : News h₀ L h' ((T, o1) :: (dT, o2) :: (R, o3) :: (r.a, o4) :: (r.d, o5) :: (la, W.listOf (vs ++ [Value.int (j : Int) u]).toArray n2) :: (own ++ offA (la) tl))) :
    ∃ tl', TreeM P T dT R (rs.set i (addTo k r j)) tl' ∧ News h₀ L h' (own ++ tl') ∧ Disj own tl' := by
  subst hla
  refine ⟨_, hT.push_list (n' := n2) (u := u) (news_inj (news_sub N fun p hp => List.mem_append_right _ hp)) hr hk mv hv, news_sub N9 fun p hp => ?_, fun p hp q hq => ?_⟩
  · rcases List.mem_append.mp hp with hp | hp
    · exact .tail _ (.tail _ (.tail _ (.tail _ (.tail _ (.tail _ (List.mem_append_left _ hp))))))
    rcases List.mem_cons.mp hp with rfl | hp
    · exact .tail _ (.tail _ (.tail _ (.tail _ (.tail _ (.head _)))))
    · exact .tail _ (.tail _ (.tail _ (.tail _ (.tail _ (.tail _ (List.mem_append_right _ hp))))))
  · rcases List.mem_cons.mp hq with rfl | hq
    · show lstOf k r ≠ p.1
      exact hD p hp _ mv
    · exact hD p hp q (mem_offA.mp hq).1
section
variable {w : World} {p : Program} {loose : List Str} {mean : ExcName → Option Value} {mg mb : Str → Option Value} {A A₀ : Around} {s : Shared} {base h₀ : Heap} {outer : List Env} {env : Env} {L : Addr} {m : Str → Option Value}
theorem Call.step {g : Heap} {env' : Env} (B : Below A base outer g) (X : (K w.params).In g) (T : Top p loose mean mg mb g) (hf : env'.frame = some L := by rfl) (hk : env'.scope.kind = .function := by rfl) : Call w p loose mean mg mb (A.deeper env') A base outer env' g L :=
  ⟨B, X, T, Around.frames_deeper B.stack, hf, hk⟩
end
theorem rows_s : True := by
  (k_with "call ref" => with_reducible refine stop_ref [148, 169] (by decide) ?_)
  trivial
section
variable {w : World} {p : Program} {loose : List Str} {mean : ExcName → Option Value} {mg mb : Str → Option Value} {A A₀ : Around} {s : Shared} {base h₀ : Heap} {outer : List Env} {env : Env} {L : Addr} {m : Str → Option Value}
theorem add_child_c0 {T dT R : Addr} {rs : List Row} {tl own : List (Addr × Obj)} {i : Nat} {r : Row} (C : Call w p loose mean mg mb A A₀ base outer env h₀ L) (F : Fr h₀ L s.heap m) (hd : Rm A 6) (hz : rs.length ≤ 900)
    (hT : TreeM w.params T dT R rs tl) (N : News h₀ L s.heap (own ++ tl)) (hD : Disj own tl) (hr : rs[i]? = some r) (hk : r.kind = Str.ofString "root" ∨ r.kind = Str.ofString "element") (hch : r.ch.length ≤ 900)
    {kind name uri loc value : Str} {t0 t1 t2 t3 t4 t5 : Tok} (Q E : Value → Shared → Prop)
    (ret : ∀ a d c t n tl' h' tk' u, TreeM w.params T dT R ((rs ++ [rowN a d c t n kind name uri loc value (some i)]).set i (addTo 0 r rs.length)) tl' → Fr h₀ L h' m → News h₀ L h' (own ++ tl') → Disj own tl' → Q (.int (rs.length : Nat) u) { s with heap := h', toks := tk' }) :
    wpAny (model prg w) A (call (.ref 169) [.ref T, .int (i : Int) t0, .str kind t1, .str name t2, .str uri t3, .str loc t4, .str value t5]) Q E s := by
  refine fill0 ?_; k_fill; intro _
  obtain ⟨hp0, gn, dr, tk0, os⟩ := s
  dsimp only at F N ret
  have X := C.X
  have T' := C.T
  have BL := C.below
  have hfr := C.frames
  have hf := C.frame
  have hk1 := C.kind
  obtain ⟨hA, dp, frs, gds, un⟩ := A; obtain rfl : hA = none := hd.handled
  dsimp only at hfr
  subst hfr
  have hkind : (!([Str.ofString "root", Str.ofString "element"].any (· == r.kind))) = false := by rcases hk with h | h <;> rw [h] <;> decide +kernel
  refine wpAny_call (code_def BL F X N T' rfl hf hk1 (K := K w.params) (f := 169) (by k_is) (by k_is) hd.room (BindsTo.of_eq (by rfl)) (locs (by rfl)) ?_ (by rfl) (by rfl) (by rfl) (by decide))
  intro g L' h₁ FG F1 N1 B1 X1 T1
  (with_reducible show wpAny _ _ _ _ _ _); k_fold
  obtain ⟨tD, nD, cR, od, vs, n1, hod, mv, hv, hN, hne, hoff, hsb, hx, hil⟩ := read_row (k := 0) hT N1 hD hr (by decide) (la := r.c) rfl
  have N2 := hN (own ++ tl) fun q hq => hq
  clear N1 N hN hoff hsb
  obtain ⟨s1, s2, s3, s4, s5, s6, s7, s8, s9, u1, u2, u3, u4, u5, u6, n4, rfl⟩ := hod
  have hlt' : (i : Int) < ((((rs.map fun r => Value.ref r.a).toArray).size : Nat) : Int) := by rw [List.size_toArray, List.length_map]; omega
  k_steps
  unfold Stop
  (rename Fr g _ _ _ => F3); (rename News g _ _ _ => N3)
  clear F1 N2
  dsimp only at F3 N3 ⊢
  show wpAny _ _ (call (.ref 148) [.ref T, .str kind t1, .str name t2, .str uri t3, .str loc t4, .str value t5, parV (some i) t0]) _ _ _
  refine' new_row_c (par := some i) ?C F3 (Rm.sub hd (by decide)) hz hT (news_sub N3 fun q hq => List.mem_append_right [_, _, _, _, _, _] hq) hD _ _ ?_
  case C => exact Call.step B1 X1 T1
  clear F3 N3 hx hlt' mv hv
  intro a' d' c' t' n' tl' h' tk' u' hT' F4 N4 hD'
  have hr' : (rs ++ [rowN a' d' c' t' n' kind name uri loc value (some i)])[i]? = some r := by rw [List.getElem?_append_left hil]; exact hr
  obtain ⟨tD, nD, cR, od, vs, n1, hod, mv, hv, hN, hne, hoff, hsb, hx, hil'⟩ := read_row (k := 0) hT' N4 hD' hr' (by decide) (la := r.c) rfl
  have N5 := hN _ hsb
  have hNN : ∃ N0 : News g L' h' (own ++ tl'), True := ⟨N4, trivial⟩
  clear N4 hN hsb
  obtain ⟨s1, s2, s3, s4, s5, s6, s7, s8, s9, u1, u2, u3, u4, u5, u6, n4, rfl⟩ := hod
  have hvc : vs.toArray.size ≤ sizeLine := size_of (by rw [ids_size hv]; show r.ch.length ≤ 1000; omega)
  generalize hlo' : own ++ offA r.c tl' = lo at N5 hoff
  k_steps
  obtain ⟨N0, _⟩ := hNN
  (rename Fr h₀ _ _ _ => F9); (rename News h₀ _ _ _ => N9)
  subst hlo'
  rw [List.push_toArray] at N9
  obtain ⟨tl2, hT2, N2, hD2⟩ := push_end (k := 0) hT' N0 hD' hr' (by decide) (la := r.c) rfl mv hv N9
  exact ret _ _ _ _ _ tl2 _ _ _ hT2 F9 N2 hD2
theorem add_child_c {hpS : Heap} {gnS : Array GenState} {drS : Drawn} {tkS : Nat} {osS : OsState} {T dT R : Addr} {rs : List Row} {tl own : List (Addr × Obj)} {i : Nat} {r : Row} (C : Call w p loose mean mg mb A A₀ base outer env h₀ L) (F : Fr h₀ L hpS m) (hd : Rm A 6) (hz : rs.length ≤ 900)
    (hT : TreeM w.params T dT R rs tl) (N : News h₀ L hpS (own ++ tl)) (hD : Disj own tl) (hr : rs[i]? = some r) (hk : r.kind = Str.ofString "root" ∨ r.kind = Str.ofString "element") (hch : r.ch.length ≤ 900)
    {kind name uri loc value : Str} {t0 t1 t2 t3 t4 t5 : Tok} (Q E : Value → Shared → Prop)
    (ret : ∀ a d c t n tl' h' tk' u, TreeM w.params T dT R ((rs ++ [rowN a d c t n kind name uri loc value (some i)]).set i (addTo 0 r rs.length)) tl' → Fr h₀ L h' m → News h₀ L h' (own ++ tl') → Disj own tl' → Q (.int (rs.length : Nat) u) (Shared.mk h' gnS drS tk' osS)) :
    wpAny (model prg w) A (call (.ref 169) [.ref T, .int (i : Int) t0, .str kind t1, .str name t2, .str uri t3, .str loc t4, .str value t5]) Q E (Shared.mk hpS gnS drS tkS osS) :=
  add_child_c0 (s := (Shared.mk hpS gnS drS tkS osS)) C F hd hz hT N hD hr hk hch Q E ret
end
theorem read_tree {P : Params} {T dT R : Addr} {rs : List Row} {tl own : List (Addr × Obj)} {h₀ h : Heap} {L : Addr} (hT : TreeM P T dT R rs tl) (N : News h₀ L h (own ++ tl)) :
    ∃ t n, News h₀ L h ((T, instObj 312 dT) :: (dT, dictOf [de P "rows" t (.ref R)] n) :: (own ++ tl)) := by
  obtain ⟨t, n, mD⟩ := hT.dict
  refine ⟨t, n, news_sub N fun q hq => ?_⟩
  rcases List.mem_cons.mp hq with rfl | hq
  · exact List.mem_append_right _ hT.inst
  rcases List.mem_cons.mp hq with rfl | hq
  · exact List.mem_append_right _ mD
  exact hq
section
variable {w : World} {p : Program} {loose : List Str} {mean : ExcName → Option Value} {mg mb : Str → Option Value} {A A₀ : Around} {s : Shared} {base h₀ : Heap} {outer : List Env} {env : Env} {L : Addr} {m : Str → Option Value}
theorem add_element_c0 {T dT R : Addr} {rs : List Row} {tl own : List (Addr × Obj)} {i : Nat} {r : Row} (C : Call w p loose mean mg mb A A₀ base outer env h₀ L) (F : Fr h₀ L s.heap m) (hd : Rm A 7) (hz : rs.length ≤ 900)
    (hT : TreeM w.params T dT R rs tl) (N : News h₀ L s.heap (own ++ tl)) (hD : Disj own tl) (hr : rs[i]? = some r) (hk : r.kind = Str.ofString "root" ∨ r.kind = Str.ofString "element") (hch : r.ch.length ≤ 900)
    {name uri loc : Str} {t0 t1 t2 t3 : Tok} (Q E : Value → Shared → Prop)
    (ret : ∀ a d c t n tl' h' tk' u, TreeM w.params T dT R ((rs ++ [rowN a d c t n (Str.ofString "element") name uri loc (Str.ofString "") (some i)]).set i (addTo 0 r rs.length)) tl' → Fr h₀ L h' m → News h₀ L h' (own ++ tl') → Disj own tl' → Q (.int (rs.length : Nat) u) { s with heap := h', toks := tk' }) :
    wpAny (model prg w) A (call (.ref 176) [.ref T, .int (i : Int) t0, .str name t1, .str uri t2, .str loc t3]) Q E s := by
  refine fill0 ?_; k_fill; intro _
  obtain ⟨hp0, gn, dr, tk0, os⟩ := s
  dsimp only at F N ret
  have X := C.X
  have T' := C.T
  have BL := C.below
  have hfr := C.frames
  have hf := C.frame
  have hk1 := C.kind
  obtain ⟨hA, dp, frs, gds, un⟩ := A; obtain rfl : hA = none := hd.handled
  dsimp only at hfr
  subst hfr
  refine wpAny_call (code_def BL F X N T' rfl hf hk1 (K := K w.params) (f := 176) (by k_is) (by k_is) hd.room (BindsTo.of_eq (by rfl)) (locs (by rfl)) ?_ (by rfl) (by rfl) (by rfl) (by decide))
  intro g L' h₁ FG F1 N1 B1 X1 T1
  (with_reducible show wpAny _ _ _ _ _ _); k_fold
  obtain ⟨tD, nD, N2⟩ := read_tree hT N1
  clear N1 N
  generalize hlo : own ++ tl = lo at N2
  k_steps
  unfold Stop
  (rename Fr g _ _ _ => F3); (rename News g _ _ _ => N3)
  dsimp only at F3 N3 ⊢
  subst hlo
  have N3 := news_sub N3 (l' := own ++ tl) fun q hq => .tail _ (.tail _ hq)
  refine' add_child_c ?C F3 (Rm.sub hd (by decide)) hz hT N3 hD hr hk hch _ _ ?_
  case C => exact Call.step B1 X1 T1
  clear F3 N3
  intro a' d' c' t' n' tl' h' tk' u' hT' F4 N4 hD'
  generalize hlo : own ++ tl' = lo at N4
  k_steps
  subst hlo
  (rename Fr h₀ _ _ _ => F9); (rename News h₀ _ _ _ => N9)
  exact ret _ _ _ _ _ tl' _ _ _ hT' F9 N9 hD'
theorem add_element_c {hpS : Heap} {gnS : Array GenState} {drS : Drawn} {tkS : Nat} {osS : OsState} {T dT R : Addr} {rs : List Row} {tl own : List (Addr × Obj)} {i : Nat} {r : Row} (C : Call w p loose mean mg mb A A₀ base outer env h₀ L) (F : Fr h₀ L hpS m) (hd : Rm A 7) (hz : rs.length ≤ 900)
    (hT : TreeM w.params T dT R rs tl) (N : News h₀ L hpS (own ++ tl)) (hD : Disj own tl) (hr : rs[i]? = some r) (hk : r.kind = Str.ofString "root" ∨ r.kind = Str.ofString "element") (hch : r.ch.length ≤ 900)
    {name uri loc : Str} {t0 t1 t2 t3 : Tok} (Q E : Value → Shared → Prop)
    (ret : ∀ a d c t n tl' h' tk' u, TreeM w.params T dT R ((rs ++ [rowN a d c t n (Str.ofString "element") name uri loc (Str.ofString "") (some i)]).set i (addTo 0 r rs.length)) tl' → Fr h₀ L h' m → News h₀ L h' (own ++ tl') → Disj own tl' → Q (.int (rs.length : Nat) u) (Shared.mk h' gnS drS tk' osS)) :
    wpAny (model prg w) A (call (.ref 176) [.ref T, .int (i : Int) t0, .str name t1, .str uri t2, .str loc t3]) Q E (Shared.mk hpS gnS drS tkS osS) :=
  add_element_c0 (s := (Shared.mk hpS gnS drS tkS osS)) C F hd hz hT N hD hr hk hch Q E ret
theorem add_text_c0 {T dT R : Addr} {rs : List Row} {tl own : List (Addr × Obj)} {i : Nat} {r : Row} (C : Call w p loose mean mg mb A A₀ base outer env h₀ L) (F : Fr h₀ L s.heap m) (hd : Rm A 7) (hz : rs.length ≤ 900)
    (hT : TreeM w.params T dT R rs tl) (N : News h₀ L s.heap (own ++ tl)) (hD : Disj own tl) (hr : rs[i]? = some r) (hk : r.kind = Str.ofString "root" ∨ r.kind = Str.ofString "element") (hch : r.ch.length ≤ 900)
    {value : Str} {t0 t1 : Tok} (Q E : Value → Shared → Prop)
    (ret : ∀ a d c t n tl' h' tk' u, TreeM w.params T dT R ((rs ++ [rowN a d c t n (Str.ofString "text") (Str.ofString "") (Str.ofString "") (Str.ofString "") value (some i)]).set i (addTo 0 r rs.length)) tl' → Fr h₀ L h' m → News h₀ L h' (own ++ tl') → Disj own tl' → Q (.int (rs.length : Nat) u) { s with heap := h', toks := tk' }) :
    wpAny (model prg w) A (call (.ref 183) [.ref T, .int (i : Int) t0, .str value t1]) Q E s := by
  refine fill0 ?_; k_fill; intro _
  obtain ⟨hp0, gn, dr, tk0, os⟩ := s
  dsimp only at F N ret
  have X := C.X
  have T' := C.T
  have BL := C.below
  have hfr := C.frames
  have hf := C.frame
  have hk1 := C.kind
  obtain ⟨hA, dp, frs, gds, un⟩ := A; obtain rfl : hA = none := hd.handled
  dsimp only at hfr
  subst hfr
  refine wpAny_call (code_def BL F X N T' rfl hf hk1 (K := K w.params) (f := 183) (by k_is) (by k_is) hd.room (BindsTo.of_eq (by rfl)) (locs (by rfl)) ?_ (by rfl) (by rfl) (by rfl) (by decide))
  intro g L' h₁ FG F1 N1 B1 X1 T1
  (with_reducible show wpAny _ _ _ _ _ _); k_fold
  obtain ⟨tD, nD, N2⟩ := read_tree hT N1
  clear N1 N
  generalize hlo : own ++ tl = lo at N2
  k_steps
  unfold Stop
  (rename Fr g _ _ _ => F3); (rename News g _ _ _ => N3)
  dsimp only at F3 N3 ⊢
  subst hlo
  have N3 := news_sub N3 (l' := own ++ tl) fun q hq => .tail _ (.tail _ hq)
  refine' add_child_c ?C F3 (Rm.sub hd (by decide)) hz hT N3 hD hr hk hch _ _ ?_
  case C => exact Call.step B1 X1 T1
  clear F3 N3
  intro a' d' c' t' n' tl' h' tk' u' hT' F4 N4 hD'
  generalize hlo : own ++ tl' = lo at N4
  k_steps
  subst hlo
  (rename Fr h₀ _ _ _ => F9); (rename News h₀ _ _ _ => N9)
  exact ret _ _ _ _ _ tl' _ _ _ hT' F9 N9 hD'
theorem add_text_c {hpS : Heap} {gnS : Array GenState} {drS : Drawn} {tkS : Nat} {osS : OsState} {T dT R : Addr} {rs : List Row} {tl own : List (Addr × Obj)} {i : Nat} {r : Row} (C : Call w p loose mean mg mb A A₀ base outer env h₀ L) (F : Fr h₀ L hpS m) (hd : Rm A 7) (hz : rs.length ≤ 900)
    (hT : TreeM w.params T dT R rs tl) (N : News h₀ L hpS (own ++ tl)) (hD : Disj own tl) (hr : rs[i]? = some r) (hk : r.kind = Str.ofString "root" ∨ r.kind = Str.ofString "element") (hch : r.ch.length ≤ 900)
    {value : Str} {t0 t1 : Tok} (Q E : Value → Shared → Prop)
    (ret : ∀ a d c t n tl' h' tk' u, TreeM w.params T dT R ((rs ++ [rowN a d c t n (Str.ofString "text") (Str.ofString "") (Str.ofString "") (Str.ofString "") value (some i)]).set i (addTo 0 r rs.length)) tl' → Fr h₀ L h' m → News h₀ L h' (own ++ tl') → Disj own tl' → Q (.int (rs.length : Nat) u) (Shared.mk h' gnS drS tk' osS)) :
    wpAny (model prg w) A (call (.ref 183) [.ref T, .int (i : Int) t0, .str value t1]) Q E (Shared.mk hpS gnS drS tkS osS) :=
  add_text_c0 (s := (Shared.mk hpS gnS drS tkS osS)) C F hd hz hT N hD hr hk hch Q E ret
theorem new_root_c0 {T dT R : Addr} {rs : List Row} {tl own : List (Addr × Obj)} (C : Call w p loose mean mg mb A A₀ base outer env h₀ L) (F : Fr h₀ L s.heap m) (hd : Rm A 7) (hz : rs.length ≤ 900)
    (hT : TreeM w.params T dT R rs tl) (N : News h₀ L s.heap (own ++ tl)) (hD : Disj own tl) (Q E : Value → Shared → Prop)
    (ret : ∀ a d c t n tl' h' tk' u, TreeM w.params T dT R (rs ++ [rowN a d c t n (Str.ofString "root") (Str.ofString "") (Str.ofString "") (Str.ofString "") (Str.ofString "") none]) tl' → Fr h₀ L h' m → News h₀ L h' (own ++ tl') → Disj own tl' → Q (.int (rs.length : Nat) u) { s with heap := h', toks := tk' }) :
    wpAny (model prg w) A (call (.ref 162) [.ref T]) Q E s := by
  refine fill0 ?_; k_fill; intro _
  obtain ⟨hp0, gn, dr, tk0, os⟩ := s
  dsimp only at F N ret
  have X := C.X
  have T' := C.T
  have BL := C.below
  have hfr := C.frames
  have hf := C.frame
  have hk1 := C.kind
  obtain ⟨hA, dp, frs, gds, un⟩ := A; obtain rfl : hA = none := hd.handled
  dsimp only at hfr
  subst hfr
  refine wpAny_call (code_def BL F X N T' rfl hf hk1 (K := K w.params) (f := 162) (by k_is) (by k_is) hd.room (BindsTo.of_eq (by rfl)) (locs (by rfl)) ?_ (by rfl) (by rfl) (by rfl) (by decide))
  intro g L' h₁ FG F1 N1 B1 X1 T1
  (with_reducible show wpAny _ _ _ _ _ _); k_fold
  obtain ⟨tD, nD, N2⟩ := read_tree hT N1
  clear N1 N
  generalize hlo : own ++ tl = lo at N2
  k_steps
  unfold Stop
  (rename Fr g _ _ _ => F3); (rename News g _ _ _ => N3)
  dsimp only at F3 N3 ⊢
  subst hlo
  have N3 := news_sub N3 (l' := own ++ tl) fun q hq => .tail _ (.tail _ hq)
  show wpAny _ _ (call (.ref 148) [.ref T, .str _ _, .str _ _, .str _ _, .str _ _, .str _ _, parV none 0]) _ _ _
  refine' new_row_c (par := none) ?C F3 (Rm.sub hd (by decide)) hz hT N3 hD _ _ ?_
  case C => exact Call.step B1 X1 T1
  clear F3 N3
  intro a' d' c' t' n' tl' h' tk' u' hT' F4 N4 hD'
  generalize hlo : own ++ tl' = lo at N4
  k_steps
  subst hlo
  (rename Fr h₀ _ _ _ => F9); (rename News h₀ _ _ _ => N9)
  exact ret _ _ _ _ _ tl' _ _ _ hT' F9 N9 hD'
theorem new_root_c {hpS : Heap} {gnS : Array GenState} {drS : Drawn} {tkS : Nat} {osS : OsState} {T dT R : Addr} {rs : List Row} {tl own : List (Addr × Obj)} (C : Call w p loose mean mg mb A A₀ base outer env h₀ L) (F : Fr h₀ L hpS m) (hd : Rm A 7) (hz : rs.length ≤ 900)
    (hT : TreeM w.params T dT R rs tl) (N : News h₀ L hpS (own ++ tl)) (hD : Disj own tl) (Q E : Value → Shared → Prop)
    (ret : ∀ a d c t n tl' h' tk' u, TreeM w.params T dT R (rs ++ [rowN a d c t n (Str.ofString "root") (Str.ofString "") (Str.ofString "") (Str.ofString "") (Str.ofString "") none]) tl' → Fr h₀ L h' m → News h₀ L h' (own ++ tl') → Disj own tl' → Q (.int (rs.length : Nat) u) (Shared.mk h' gnS drS tk' osS)) :
    wpAny (model prg w) A (call (.ref 162) [.ref T]) Q E (Shared.mk hpS gnS drS tkS osS) :=
  new_root_c0 (s := (Shared.mk hpS gnS drS tkS osS)) C F hd hz hT N hD Q E ret
end
/-- a loop that changes nothing -/
inductive Still (hl : List (Str × Value)) (NX : List (Addr × Obj)) : Nat → (Str → Option Value) → List (Addr × Obj) → Prop
  | mk {k : Nat} {m : Str → Option Value} : Has m hl → Still hl NX k m NX
section
variable {w : World} {p : Program} {loose : List Str} {mean : ExcName → Option Value} {mg mb : Str → Option Value} {A A₀ : Around} {s : Shared} {base h₀ : Heap} {outer : List Env} {env : Env} {L : Addr} {m : Str → Option Value}
theorem set_attribute_c0 {T dT R : Addr} {rs : List Row} {tl own : List (Addr × Obj)} {i : Nat} {r : Row} (C : Call w p loose mean mg mb A A₀ base outer env h₀ L) (F : Fr h₀ L s.heap m) (hd : Rm A 7) (hz : rs.length ≤ 900)
    (hT : TreeM w.params T dT R rs tl) (N : News h₀ L s.heap (own ++ tl)) (hD : Disj own tl) (hr : rs[i]? = some r) (hk : r.kind = Str.ofString "element") (ha : r.ats = [])
    {name uri loc value : Str} {t0 t1 t2 t3 t4 : Tok} (Q E : Value → Shared → Prop)
    (ret : ∀ a d c t n tl' h' tk' u, TreeM w.params T dT R ((rs ++ [rowN a d c t n (Str.ofString "attribute") name uri loc value (some i)]).set i (addTo 1 r rs.length)) tl' → Fr h₀ L h' m → News h₀ L h' (own ++ tl') → Disj own tl' → Q (.int (rs.length : Nat) u) { s with heap := h', toks := tk' }) :
    wpAny (model prg w) A (call (.ref 211) [.ref T, .int (i : Int) t0, .str name t1, .str uri t2, .str loc t3, .str value t4]) Q E s := by
  refine fill0 ?_; k_fill; intro _
  obtain ⟨hp0, gn, dr, tk0, os⟩ := s
  dsimp only at F N ret
  have X := C.X
  have T' := C.T
  have BL := C.below
  have hfr := C.frames
  have hf := C.frame
  have hk1 := C.kind
  obtain ⟨hA, dp, frs, gds, un⟩ := A; obtain rfl : hA = none := hd.handled
  dsimp only at hfr
  subst hfr
  have hkind : (r.kind != Str.ofString "element") = false := by rw [hk]; decide +kernel
  refine wpAny_call (code_def BL F X N T' rfl hf hk1 (K := K w.params) (f := 211) (by k_is) (by k_is) hd.room (BindsTo.of_eq (by rfl)) (locs (by rfl)) ?_ (by rfl) (by rfl) (by rfl) (by decide))
  intro g L' h₁ FG F1 N1 B1 X1 T1
  (with_reducible show wpAny _ _ _ _ _ _); k_fold
  obtain ⟨tD, nD, cR, od, vs, n1, hod, mv, hv, hN, hne, hoff, hsb, hx, hil⟩ := read_row (k := 1) hT N1 hD hr (by decide) (la := r.t) rfl
  have N2 := hN (own ++ tl) fun q hq => hq
  clear N1 N hN hoff hsb
  obtain ⟨s1, s2, s3, s4, s5, s6, s7, s8, s9, u1, u2, u3, u4, u5, u6, n4, rfl⟩ := hod
  have hlt' : (i : Int) < ((((rs.map fun r => Value.ref r.a).toArray).size : Nat) : Int) := by rw [List.size_toArray, List.length_map]; omega
  obtain rfl : vs = [] := by
    have h1 : vs.length = r.ats.length := ids_size (ns := r.ats) hv
    rw [ha] at h1; exact List.length_eq_zero_iff.mp h1
  generalize hlo : own ++ tl = lo at N2
  k_steps
  unfold Stop
  (rename Fr g _ _ _ => F3); (rename News g _ _ _ => N3)
  try dsimp only at F3 N3
  refine eachL (Still ([(Str.ofString "self", .ref T), (Str.ofString "element", .int (i : Int) t0), (Str.ofString "name", .str name t1), (Str.ofString "uri", .str uri t2), (Str.ofString "local", .str loc t3), (Str.ofString "value", .str value t4), (Str.ofString "row", .ref r.a)]) _) (vs := []) (n := n1) rfl F3 N3 (.inr ⟨?mem, ?mem2⟩) (.mk ⟨rfl, rfl, rfl, rfl, rfl, rfl, rfl, trivial⟩) ?turn ?done
  case mem => exact .tail _ (.tail _ (.tail _ (.tail _ (.tail _ (.head _)))))
  case mem2 => intro k m' nx hJ; cases hJ; exact .tail _ (.tail _ (.tail _ (.tail _ (.tail _ (.head _)))))
  case turn => intro I hI k v m' nx it h tk hv'; simp at hv'
  case done =>
  intro m' nx h2 tk2 hJ F4 N4
  cases hJ with
  | mk hm =>
  have F5 := fr_has F4 hm
  dsimp only [setL, envOf] at F5
  dsimp only [envOf] at N4
  clear F3 N3 F4
  k_steps
  unfold Stop
  (rename Fr g _ _ _ => F3); (rename News g _ _ _ => N3)
  try dsimp only at F3 N3 ⊢
  subst hlo
  show wpAny _ _ (call (.ref 148) [.ref T, .str _ _, .str name t1, .str uri t2, .str loc t3, .str value t4, parV (some i) t0]) _ _ _
  refine' new_row_c (par := some i) ?C F3 (Rm.sub hd (by decide)) hz hT (news_sub N3 fun q hq => List.mem_append_right [_, _, _, _, _, _] hq) hD _ _ ?_
  case C => exact Call.step B1 X1 T1
  clear F3 N3 hx hlt' mv hv
  intro a' d' c' t' n' tl' h' tk' u' hT' F4 N4 hD'
  have hr' : (rs ++ [rowN a' d' c' t' n' (Str.ofString "attribute") name uri loc value (some i)])[i]? = some r := by rw [List.getElem?_append_left hil]; exact hr
  obtain ⟨tD, nD, cR, od, vs, n1, hod, mv, hv, hN, hne, hoff, hsb, hx, hil'⟩ := read_row (k := 1) hT' N4 hD' hr' (by decide) (la := r.t) rfl
  have N5 := hN _ hsb
  have hNN : ∃ N0 : News g L' h' (own ++ tl'), True := ⟨N4, trivial⟩
  clear N4 hN hsb
  obtain ⟨s1, s2, s3, s4, s5, s6, s7, s8, s9, u1, u2, u3, u4, u5, u6, n4, rfl⟩ := hod
  have hvc : vs.toArray.size ≤ sizeLine := size_of (by rw [ids_size hv]; show r.ats.length ≤ 1000; rw [ha]; exact Nat.zero_le _)
  generalize hlo' : own ++ offA r.t tl' = lo at N5 hoff
  k_steps
  obtain ⟨N0, _⟩ := hNN
  (rename Fr h₀ _ _ _ => F9); (rename News h₀ _ _ _ => N9)
  subst hlo'
  rw [List.push_toArray] at N9
  obtain ⟨tl2, hT2, N2, hD2⟩ := push_end (k := 1) hT' N0 hD' hr' (by decide) (la := r.t) rfl mv hv N9
  exact ret _ _ _ _ _ tl2 _ _ _ hT2 F9 N2 hD2
theorem set_attribute_c {hpS : Heap} {gnS : Array GenState} {drS : Drawn} {tkS : Nat} {osS : OsState} {T dT R : Addr} {rs : List Row} {tl own : List (Addr × Obj)} {i : Nat} {r : Row} (C : Call w p loose mean mg mb A A₀ base outer env h₀ L) (F : Fr h₀ L hpS m) (hd : Rm A 7) (hz : rs.length ≤ 900)
    (hT : TreeM w.params T dT R rs tl) (N : News h₀ L hpS (own ++ tl)) (hD : Disj own tl) (hr : rs[i]? = some r) (hk : r.kind = Str.ofString "element") (ha : r.ats = [])
    {name uri loc value : Str} {t0 t1 t2 t3 t4 : Tok} (Q E : Value → Shared → Prop)
    (ret : ∀ a d c t n tl' h' tk' u, TreeM w.params T dT R ((rs ++ [rowN a d c t n (Str.ofString "attribute") name uri loc value (some i)]).set i (addTo 1 r rs.length)) tl' → Fr h₀ L h' m → News h₀ L h' (own ++ tl') → Disj own tl' → Q (.int (rs.length : Nat) u) (Shared.mk h' gnS drS tk' osS)) :
    wpAny (model prg w) A (call (.ref 211) [.ref T, .int (i : Int) t0, .str name t1, .str uri t2, .str loc t3, .str value t4]) Q E (Shared.mk hpS gnS drS tkS osS) :=
  set_attribute_c0 (s := (Shared.mk hpS gnS drS tkS osS)) C F hd hz hT N hD hr hk ha Q E ret
end
theorem news_app {h₀ h : Heap} {L : Addr} {l l' : List (Addr × Obj)} (N : News h₀ L h l) (N' : News h₀ L h l') : News h₀ L h (l ++ l') := fun p hp => (List.mem_append.mp hp).elim (N p) (N' p)
section
variable {w : World} {p : Program} {loose : List Str} {mean : ExcName → Option Value} {mg mb : Str → Option Value} {A A₀ : Around} {s : Shared} {base h₀ : Heap} {outer : List Env} {env : Env} {L : Addr} {m : Str → Option Value}
theorem add_namespace_c0 {T dT R : Addr} {rs : List Row} {tl own : List (Addr × Obj)} {i : Nat} {r : Row} (C : Call w p loose mean mg mb A A₀ base outer env h₀ L) (F : Fr h₀ L s.heap m) (hd : Rm A 7) (hz : rs.length ≤ 900)
    (hT : TreeM w.params T dT R rs tl) (N : News h₀ L s.heap (own ++ tl)) (hD : Disj own tl) (hr : rs[i]? = some r) (hk : r.kind = Str.ofString "element") (hnl : r.nss.length ≤ 900)
    {pre uri : Str} (hnm : ∀ j ∈ r.nss, ∃ q, rs[j]? = some q ∧ q.name ≠ pre) {t0 t1 t2 : Tok} (Q E : Value → Shared → Prop)
    (ret : ∀ a d c t n tl' h' tk' u, TreeM w.params T dT R ((rs ++ [rowN a d c t n (Str.ofString "namespace") pre (Str.ofString "") pre uri (some i)]).set i (addTo 2 r rs.length)) tl' → Fr h₀ L h' m → News h₀ L h' (own ++ tl') → Disj own tl' → Q (.int (rs.length : Nat) u) { s with heap := h', toks := tk' }) :
    wpAny (model prg w) A (call (.ref 218) [.ref T, .int (i : Int) t0, .str pre t1, .str uri t2]) Q E s := by
  refine fill0 ?_; k_fill; intro _
  obtain ⟨hp0, gn, dr, tk0, os⟩ := s
  dsimp only at F N ret
  have X := C.X
  have T' := C.T
  have BL := C.below
  have hfr := C.frames
  have hf := C.frame
  have hk1 := C.kind
  obtain ⟨hA, dp, frs, gds, un⟩ := A; obtain rfl : hA = none := hd.handled
  dsimp only at hfr
  subst hfr
  have hkind : (r.kind != Str.ofString "element") = false := by rw [hk]; decide +kernel
  refine wpAny_call (code_def BL F X N T' rfl hf hk1 (K := K w.params) (f := 218) (by k_is) (by k_is) hd.room (BindsTo.of_eq (by rfl)) (locs (by rfl)) ?_ (by rfl) (by rfl) (by rfl) (by decide))
  intro g L' h₁ FG F1 N1 B1 X1 T1
  (with_reducible show wpAny _ _ _ _ _ _); k_fold
  obtain ⟨tD, nD, cR, od, vs, n1, hod, mv, hv, hN, hne, hoff, hsb, hx, hil⟩ := read_row (k := 2) hT N1 hD hr (by decide) (la := r.n) rfl
  have N2 := hN (own ++ tl) fun q hq => hq
  clear N1 N hN hoff hsb
  obtain ⟨s1, s2, s3, s4, s5, s6, s7, s8, s9, u1, u2, u3, u4, u5, u6, n4, rfl⟩ := hod
  have hlt' : (i : Int) < ((((rs.map fun r => Value.ref r.a).toArray).size : Nat) : Int) := by rw [List.size_toArray, List.length_map]; omega
  generalize hlo : own ++ tl = lo at N2
  k_steps
  unfold Stop
  (rename Fr g _ _ _ => F3); (rename News g _ _ _ => N3)
  try dsimp only at F3 N3
  refine eachL (Still ([(Str.ofString "self", .ref T), (Str.ofString "element", .int (i : Int) t0), (Str.ofString "prefix", .str pre t1), (Str.ofString "uri", .str uri t2), (Str.ofString "row", .ref r.a)]) _) (vs := vs) (n := n1) rfl F3 N3 (.inr ⟨?mem, ?mem2⟩) (.mk ⟨rfl, rfl, rfl, rfl, rfl, trivial⟩) ?turn ?done
  case mem => exact .tail _ (.tail _ (.tail _ (.tail _ (.tail _ (.head _)))))
  case mem2 => intro k m' nx hJ; cases hJ; exact .tail _ (.tail _ (.tail _ (.tail _ (.tail _ (.head _)))))
  case turn =>
    intro I hI k v m' nx it h tk hv' hoff2 hJ F4 N4
    cases hJ with
    | mk hm =>
    obtain ⟨j, tj, hj, rfl⟩ := ints_getN (ns := r.nss) hv hv'
    obtain ⟨q, hq, hqn⟩ := hnm j (List.mem_of_getElem? hj)
    have hqn' : (q.name == pre) = false := beq_eq_false_iff_ne.mpr hqn
    have F5 := fr_has1 F4 hm
    dsimp only [setL, envOf] at F5
    dsimp only [envOf] at N4
    have N4b : News g L' h (own ++ tl) := news_sub N4 fun q hq => List.mem_append_right [_, _, _, _, _, _, _] (hlo ▸ hq)
    obtain ⟨tD', nD', cR', od', vs', n1', hod', mv', hv2, hN', hne', hoff', hsb', hx', hil'⟩ := read_row (k := 2) hT N4b hD hq (by decide) (la := q.n) rfl
    have N5 := news_app (hN' [] (fun q hq => nomatch hq)) N4
    clear F3 N3 F4 N4 N4b hN' hoff' hsb' mv' hv2 hne' hx hlt'
    obtain ⟨s1', s2', s3', s4', s5', s6', s7', s8', s9', u1', u2', u3', u4', u5', u6', n4', rfl⟩ := hod'
    have hlt' : (j : Int) < ((((rs.map fun r => Value.ref r.a).toArray).size : Nat) : Int) := by rw [List.size_toArray, List.length_map]; omega
    simp only [List.cons_append, List.nil_append] at N5
    generalize hPo : UnrPost _ _ _ _ _ _ _ = Po
    k_steps
    subst hPo
    show UnrEnd _ _ _ _ _ _ _
    (rename Fr g _ _ _ => F6); (rename News g _ _ _ => N6)
    refine UnrEnd.intro F6 N6 _ (fun q hq => List.mem_append_right [_, _, _, _, _, _] hq) hoff2 ?_
    exact .mk ⟨rfl, rfl, rfl, rfl, rfl, trivial⟩
  case done =>
  intro m' nx h2 tk2 hJ F4 N4
  cases hJ with
  | mk hm =>
  have F5 := fr_has F4 hm
  dsimp only [setL, envOf] at F5
  dsimp only [envOf] at N4
  clear F3 N3 F4
  k_steps
  unfold Stop
  (rename Fr g _ _ _ => F3); (rename News g _ _ _ => N3)
  try dsimp only at F3 N3 ⊢
  subst hlo
  show wpAny _ _ (call (.ref 148) [.ref T, .str _ _, .str pre t1, .str _ _, .str pre t1, .str uri t2, parV (some i) t0]) _ _ _
  refine' new_row_c (par := some i) ?C F3 (Rm.sub hd (by decide)) hz hT (news_sub N3 fun q hq => List.mem_append_right [_, _, _, _, _, _] hq) hD _ _ ?_
  case C => exact Call.step B1 X1 T1
  clear F3 N3 hx hlt' mv hv
  intro a' d' c' t' n' tl' h' tk' u' hT' F4 N4 hD'
  have hr' : (rs ++ [rowN a' d' c' t' n' (Str.ofString "namespace") pre (Str.ofString "") pre uri (some i)])[i]? = some r := by rw [List.getElem?_append_left hil]; exact hr
  obtain ⟨tD, nD, cR, od, vs, n1, hod, mv, hv, hN, hne, hoff, hsb, hx, hil'⟩ := read_row (k := 2) hT' N4 hD' hr' (by decide) (la := r.n) rfl
  have N5 := hN _ hsb
  have hNN : ∃ N0 : News g L' h' (own ++ tl'), True := ⟨N4, trivial⟩
  clear N4 hN hsb
  obtain ⟨s1, s2, s3, s4, s5, s6, s7, s8, s9, u1, u2, u3, u4, u5, u6, n4, rfl⟩ := hod
  have hvc : vs.toArray.size ≤ sizeLine := size_of (by rw [ids_size hv]; show r.nss.length ≤ 1000; omega)
  generalize hlo' : own ++ offA r.n tl' = lo at N5 hoff
  k_steps
  obtain ⟨N0, _⟩ := hNN
  (rename Fr h₀ _ _ _ => F9); (rename News h₀ _ _ _ => N9)
  subst hlo'
  rw [List.push_toArray] at N9
  obtain ⟨tl2, hT2, N2, hD2⟩ := push_end (k := 2) hT' N0 hD' hr' (by decide) (la := r.n) rfl mv hv N9
  exact ret _ _ _ _ _ tl2 _ _ _ hT2 F9 N2 hD2
theorem add_namespace_c {hpS : Heap} {gnS : Array GenState} {drS : Drawn} {tkS : Nat} {osS : OsState} {T dT R : Addr} {rs : List Row} {tl own : List (Addr × Obj)} {i : Nat} {r : Row} (C : Call w p loose mean mg mb A A₀ base outer env h₀ L) (F : Fr h₀ L hpS m) (hd : Rm A 7) (hz : rs.length ≤ 900)
    (hT : TreeM w.params T dT R rs tl) (N : News h₀ L hpS (own ++ tl)) (hD : Disj own tl) (hr : rs[i]? = some r) (hk : r.kind = Str.ofString "element") (hnl : r.nss.length ≤ 900)
    {pre uri : Str} (hnm : ∀ j ∈ r.nss, ∃ q, rs[j]? = some q ∧ q.name ≠ pre) {t0 t1 t2 : Tok} (Q E : Value → Shared → Prop)
    (ret : ∀ a d c t n tl' h' tk' u, TreeM w.params T dT R ((rs ++ [rowN a d c t n (Str.ofString "namespace") pre (Str.ofString "") pre uri (some i)]).set i (addTo 2 r rs.length)) tl' → Fr h₀ L h' m → News h₀ L h' (own ++ tl') → Disj own tl' → Q (.int (rs.length : Nat) u) (Shared.mk h' gnS drS tk' osS)) :
    wpAny (model prg w) A (call (.ref 218) [.ref T, .int (i : Int) t0, .str pre t1, .str uri t2]) Q E (Shared.mk hpS gnS drS tkS osS) :=
  add_namespace_c0 (s := (Shared.mk hpS gnS drS tkS osS)) C F hd hz hT N hD hr hk hnl hnm Q E ret
end
section
variable {w : World} {p : Program} {loose : List Str} {mean : ExcName → Option Value} {mg mb : Str → Option Value} {A : Around} {s : Shared} {h₀ : Heap} {L : Addr} {m : Str → Option Value}
theorem kp_hide {own : List (Addr × Obj)} {as : List Addr} (F : Fr h₀ L s.heap m) (N : News h₀ L s.heap own) (h : ∀ a ∈ as, ∃ o, (a, o) ∈ own) : Kp h₀ (hideAll s.heap as) := fun b o e => hideAll_get _ (F.keep _ _ e) fun hm => by
  obtain ⟨o', ho'⟩ := h b hm
  rw [(N _ ho').2.2] at e; cases e
theorem back_frame {own : List (Addr × Obj)} {h' : Heap} {S : Addr} {o o' : Obj} (F : Fr h₀ L s.heap m) (N : News h₀ L s.heap ((S, o) :: own)) (hoff : ∀ q ∈ own, q.1 ≠ S) (k : ∀ b o, b ≠ S → s.heap.get? b = some o → h'.get? b = some o) (hS : h'.get? S = some o') :
    Fr h₀ L h' m ∧ News h₀ L h' ((S, o') :: own) := by
  have hSn := (N _ (.head _)).2
  obtain ⟨oL, es, ep, hL, r⟩ := F.ns
  refine ⟨⟨⟨oL, es, ep, k _ _ (Ne.symm hSn.1) hL, r⟩, fun b o e => k _ _ (fun q => ?_) (F.keep b o e), F.above⟩, fun q hq => ?_⟩
  · rw [q, hSn.2] at e; cases e
  · rcases List.mem_cons.mp hq with rfl | hq
    · exact ⟨hS, hSn⟩
    · have := N q (.tail _ hq)
      exact ⟨k _ _ (hoff q hq) this.1, this.2⟩
theorem useTake0 {S : Addr} {x y : Int} {t1 t2 : Tok} {n : Nat} {own : List (Addr × Obj)} (X : (K w.params).In h₀) (T : Top p loose mean mg mb h₀) (F : Fr h₀ L s.heap m) (N : News h₀ L s.heap ((S, srcO x y t1 t2 n) :: own)) (hoff : ∀ q ∈ own, q.1 ≠ S) (hx : 0 ≤ x) (hy : 0 ≤ y) (hd : Rm A 1) {top : Int} {tt : Tok} (ht : 1 ≤ top) (ht9 : top ≤ 9)
    (Q E : Value → Shared → Prop)
    (ret : ∀ (r : Nat) tr h' tk' x' y' t1' t2' n', Fr h₀ L h' m → News h₀ L h' ((S, srcO x' y' t1' t2' n') :: own) → 0 ≤ x' → 0 ≤ y' → (r : Int) < top → Q (.int (r : Nat) tr) { s with heap := h', toks := tk' }) :
    wpAny (model prg w) A (call (.ref 330) [.ref S, .int top tt]) Q E s := by
  have B0 : Bs w p loose mean mg mb h₀ := ⟨X, T⟩
  refine take_c (B0.keeps (kp_hide (as := [S]) F N fun a ha => by obtain rfl := List.mem_singleton.mp ha; exact ⟨_, .head _⟩)) (N _ (.head _)).1 hx hy hd ht ht9 Q E fun r tr h' tk' x' y' t1' t2' n' k hS a b c d => ?_
  obtain ⟨F', N'⟩ := back_frame F N hoff k hS
  obtain ⟨j, rfl⟩ := Int.eq_ofNat_of_zero_le c
  exact ret j tr h' tk' x' y' t1' t2' n' F' N' a b d
theorem useTake {hpS : Heap} {gnS : Array GenState} {drS : Drawn} {tkS : Nat} {osS : OsState} {S : Addr} {x y : Int} {t1 t2 : Tok} {n : Nat} {own : List (Addr × Obj)} (X : (K w.params).In h₀) (T : Top p loose mean mg mb h₀) (F : Fr h₀ L hpS m) (N : News h₀ L hpS ((S, srcO x y t1 t2 n) :: own)) (hoff : ∀ q ∈ own, q.1 ≠ S) (hx : 0 ≤ x) (hy : 0 ≤ y) (hd : Rm A 1) {top : Int} {tt : Tok} (ht : 1 ≤ top) (ht9 : top ≤ 9)
    (Q E : Value → Shared → Prop)
    (ret : ∀ (r : Nat) tr h' tk' x' y' t1' t2' n', Fr h₀ L h' m → News h₀ L h' ((S, srcO x' y' t1' t2' n') :: own) → 0 ≤ x' → 0 ≤ y' → (r : Int) < top → Q (.int (r : Nat) tr) (Shared.mk h' gnS drS tk' osS)) :
    wpAny (model prg w) A (call (.ref 330) [.ref S, .int top tt]) Q E (Shared.mk hpS gnS drS tkS osS) :=
  useTake0 (s := (Shared.mk hpS gnS drS tkS osS)) X T F N hoff hx hy hd ht ht9 Q E ret
end
section
variable {w : World} {p : Program} {loose : List Str} {mean : ExcName → Option Value} {mg mb : Str → Option Value} {A : Around} {s : Shared}
theorem one_c {S th : Addr} {x y : Int} {t1 t2 : Tok} {n : Nat} {vs : List Value} (B : Bs w p loose mean mg mb (hideAll s.heap [S])) (hS : s.heap.get? S = some (srcO x y t1 t2 n)) (hx : 0 ≤ x) (hy : 0 ≤ y) (hd : Rm A 2) (hl : LstAt (hideAll s.heap [S]) th vs) (h1 : 1 ≤ vs.length) (h9 : vs.length ≤ 9)
    (Q E : Value → Shared → Prop)
    (ret : ∀ (r : Nat) v h' tk' x' y' t1' t2' n', (∀ b o, b ≠ S → s.heap.get? b = some o → h'.get? b = some o) → h'.get? S = some (srcO x' y' t1' t2' n') → 0 ≤ x' → 0 ≤ y' → vs[r]? = some v → Q v { s with heap := h', toks := tk' }) :
    wpAny (model prg w) A (call (.ref 337) [.ref S, .ref th]) Q E s := by
  refine fill0 ?_; k_fill; intro _
  obtain ⟨hp0, gn, dr, tk0, os⟩ := s
  dsimp only at B hS ret hl
  obtain ⟨hA, dp, frs, gds, un⟩ := A; obtain rfl : hA = none := hd.handled
  refine enterM (hid := [(S, srcO x y t1 t2 n)]) B (List.forall_mem_cons.mpr ⟨hS, List.forall_mem_nil _⟩) (st := stmtAt 22) (f := 337) (binds := [(Str.ofString "source", .ref S), (Str.ofString "things", .ref th)]) (by k_is) rfl (by k_is) hd.room (by rfl) (by rfl) ?_
  intro L h₁ tk hL F N hlt
  have X := B.X
  have T' := B.T
  simp only [List.map_cons, List.map_nil] at F N
  generalize hG : hideAll hp0 [S] = G at *
  have dn : ∀ b o, b ≠ S → hp0.get? b = some o → G.get? b = some o := fun b o hb e => by rw [← hG]; exact hideAll_get _ e fun hm => hb (List.mem_singleton.mp hm)
  k_steps
  (rename Fr G _ _ _ => F1); (rename News G _ _ _ => N1)
  try dsimp only at F1 N1 ⊢
  refine useTake X T' F1 N1 (List.forall_mem_nil _) hx hy (Rm.sub hd (by decide)) (by omega) (by omega) _ _ ?_
  intro r tr h2 tk2 x' y' t1' t2' n' F2 N2 hx' hy' hr
  have hrl : r < vs.length := by omega
  have hv : vs[((r : Nat) : Int).toNat]? = some vs[r] := List.getElem?_eq_getElem hrl
  k_steps
  (rename Fr G _ _ _ => F3); (rename News G _ _ _ => N3)
  exact ret r _ _ _ _ _ _ _ _ (fun b o hb e => F3.keep _ _ (dn b o hb e)) (N3 _ (.head _)).1 hx' hy' hv
end
section
variable {w : World} {p : Program} {loose : List Str} {mean : ExcName → Option Value} {mg mb : Str → Option Value} {A : Around} {s : Shared} {h₀ : Heap} {L : Addr} {m : Str → Option Value}
theorem useOne0 {S th : Addr} {x y : Int} {t1 t2 : Tok} {n c : Nat} {vs : List Value} {own : List (Addr × Obj)} (X : (K w.params).In h₀) (T : Top p loose mean mg mb h₀) (F : Fr h₀ L s.heap m) (N : News h₀ L s.heap ((S, srcO x y t1 t2 n) :: own)) (hoff : ∀ q ∈ own, q.1 ≠ S) (hx : 0 ≤ x) (hy : 0 ≤ y) (hd : Rm A 2)
    (hm : (th, W.listOf vs.toArray c) ∈ own) (h1 : 1 ≤ vs.length) (h9 : vs.length ≤ 9)
    (Q E : Value → Shared → Prop)
    (ret : ∀ (r : Nat) v h' tk' x' y' t1' t2' n', Fr h₀ L h' m → News h₀ L h' ((S, srcO x' y' t1' t2' n') :: own) → 0 ≤ x' → 0 ≤ y' → vs[r]? = some v → Q v { s with heap := h', toks := tk' }) :
    wpAny (model prg w) A (call (.ref 337) [.ref S, .ref th]) Q E s := by
  have B0 : Bs w p loose mean mg mb h₀ := ⟨X, T⟩
  have hth : LstAt (hideAll s.heap [S]) th vs := ⟨c, hideAll_get _ (N _ (.tail _ hm)).1 fun q => hoff _ hm (List.mem_singleton.mp q)⟩
  refine one_c (B0.keeps (kp_hide (as := [S]) F N fun a ha => by obtain rfl := List.mem_singleton.mp ha; exact ⟨_, .head _⟩)) (N _ (.head _)).1 hx hy hd hth h1 h9 Q E fun r v h' tk' x' y' t1' t2' n' k hS a b c => ?_
  obtain ⟨F', N'⟩ := back_frame F N hoff k hS
  exact ret r v h' tk' x' y' t1' t2' n' F' N' a b c
theorem useOne {hpS : Heap} {gnS : Array GenState} {drS : Drawn} {tkS : Nat} {osS : OsState} {S th : Addr} {x y : Int} {t1 t2 : Tok} {n c : Nat} {vs : List Value} {own : List (Addr × Obj)} (X : (K w.params).In h₀) (T : Top p loose mean mg mb h₀) (F : Fr h₀ L hpS m) (N : News h₀ L hpS ((S, srcO x y t1 t2 n) :: own)) (hoff : ∀ q ∈ own, q.1 ≠ S) (hx : 0 ≤ x) (hy : 0 ≤ y) (hd : Rm A 2)
    (hm : (th, W.listOf vs.toArray c) ∈ own) (h1 : 1 ≤ vs.length) (h9 : vs.length ≤ 9)
    (Q E : Value → Shared → Prop)
    (ret : ∀ (r : Nat) v h' tk' x' y' t1' t2' n', Fr h₀ L h' m → News h₀ L h' ((S, srcO x' y' t1' t2' n') :: own) → 0 ≤ x' → 0 ≤ y' → vs[r]? = some v → Q v (Shared.mk h' gnS drS tk' osS)) :
    wpAny (model prg w) A (call (.ref 337) [.ref S, .ref th]) Q E (Shared.mk hpS gnS drS tkS osS) :=
  useOne0 (s := (Shared.mk hpS gnS drS tkS osS)) X T F N hoff hx hy hd hm h1 h9 Q E ret
end
section
variable {prog : Program} {w : World} {A : Around} {E : Value → Shared → Prop} {env : Env}
/-- a list comprehension over a list whose tests and elements let the heap only grow -/
theorem ListComp_quiet {s : Shared} {elt iter : PySem.Expr} {x : Str} {px : Pos} {ifs : List PySem.Expr} {scope : Scope} {cl : List (Str × Addr)} {pos : Pos} {Q : Value → Shared → Prop} (p : Value → Bool) (F : Value → Value → Prop)
    (hh : A.handled = none) (hclos : closureFor scope env = pure cl) (hcell : ∀ y ∈ scope.names, y.2 ≠ .cell) (hkind : scope.kind = .function)
    (hnames : ∀ y ∈ scope.names, y.2 = .local → scope.names.lookup y.1 = some .local) (hx : scope.names.lookup x = some .local)
    (h : wpAny (model prog w) A (eval iter env) (fun xv s₁ => ∃ a us, xv = .ref a ∧ s₁.heap.IsList a (us : List Value).toArray ∧ us.length ≤ sizeLine ∧
      (∀ C v s₃ m₃ (E' : Value → Shared → Prop), s₁.heap.objs.size ≤ C → v ∈ us → s₃.heap.Ns C m₃ → m₃ x = some v → Kp s₁.heap s₃.heap →
        wpAny (model prog w) A (forIn ifs true fun c r => if r = true then do let ok ← isTrue c (compEnvC scope cl C env) (eval c (compEnvC scope cl C env)); pure (ForInStep.yield ok) else pure (ForInStep.yield r)) (fun ok s₄ => ok = p v ∧ Keeps s₃ s₄) E' s₃) ∧
      (∀ C v s₃ m₃ (E' : Value → Shared → Prop), s₁.heap.objs.size ≤ C → v ∈ us → p v = true → s₃.heap.Ns C m₃ → m₃ x = some v → Kp s₁.heap s₃.heap →
        wpAny (model prog w) A (eval elt (compEnvC scope cl C env)) (fun y s₄ => F v y ∧ Keeps s₃ s₄) E' s₃) ∧
      (∀ D h' tk ys, s₁.heap.get? D = none → h'.PlainList D ys → Paired F (us.filter p) ys.toList → Kp s₁.heap h' → Q (.ref D) { s₁ with heap := h', toks := tk })) E s)
    (hs : ∀ x, foldedSetIterable iter env x = pure x := by intro _; rfl) :
    wpAny (model prog w) A (eval (.ListComp elt [⟨.Name x px, iter, ifs, 0⟩] scope pos) env) Q E s := by
  refine wpAny_ListComp_free p F hclos hcell hkind hnames hx (wpAny_mono h (fun xv s₁ q => ?_) fun _ _ e => e) hs
  obtain ⟨a, us, rfl, hl, hz, ht, he, hQ⟩ := q
  refine wpAny_pyIter_list hl ?_
  have hlt : a < s₁.heap.objs.size := by obtain ⟨_, e, _⟩ := hl; exact Heap.lt_size e
  have W := Walks.list (prog := prog) (w := w) hh s₁.heap.objs.size a (Nat.ne_of_lt hlt) us.toArray
  have hne : ∀ {b : Addr} {o : Obj}, s₁.heap.get? b = some o → b ∉ [s₁.heap.objs.size] := fun e hm => Nat.ne_of_lt (Heap.lt_size e) (List.mem_singleton.mp hm)
  have up : Kp s₁.heap (s₁.heap.push { cls := .type "list_iterator", data := .fields #[.ref a, .int 0 0] }) := fun b o e => Heap.get?_push_of_some _ e
  have hsz : s₁.heap.objs.size ≤ (s₁.heap.push { cls := .type "list_iterator", data := .fields #[.ref a, .int 0 0] }).objs.size := by rw [Heap.size_push]; exact Nat.le_succ _
  have hget : ∀ {i : Nat} {v : Value}, us.toArray[i]? = some v → v ∈ us := fun e => List.mem_of_getElem? (by simpa using e)
  refine ⟨_, _, _, _, _, _, rfl, W, by rw [List.size_toArray]; exact hz, ⟨⟨_, Heap.get?_push_size _ rfl, rfl, rfl⟩, hl.at fun o e => up _ _ e⟩, fun b hb => ?_, ⟨fun C i v s₃ m₃ E' hC hP hns hm hk _ => ?_, fun C i v s₃ m₃ E' hC hP hp hns hm hk _ => ?_⟩, fun D h' tk ys vs hD _ hpl hlen hP hF hk => ?_⟩
  · show b < (s₁.heap.push _).objs.size
    rw [Heap.size_push]
    rcases List.mem_cons.mp hb with rfl | hb
    · exact Nat.lt_succ_self _
    · rw [List.mem_singleton.mp hb]; exact Nat.lt_succ_of_lt hlt
  · exact ht C v s₃ m₃ E' (Nat.le_trans hsz hC) (hget hP) hns hm fun b o e => hk b o (hne e) (up b o e)
  · exact he C v s₃ m₃ E' (Nat.le_trans hsz hC) (hget hP) hp hns hm fun b o e => hk b o (hne e) (up b o e)
  · have hvs : vs = us := by
      rw [List.size_toArray] at hlen
      refine List.ext_getElem? fun i => ?_
      by_cases hi : i < vs.length
      · obtain ⟨v, hv⟩ : ∃ v, vs[i]? = some v := ⟨_, List.getElem?_eq_getElem hi⟩
        have := hP i v hv
        rw [hv]; simpa using this.symm
      · rw [List.getElem?_eq_none (by omega), List.getElem?_eq_none (by omega)]
    subst hvs
    refine hQ D h' tk ys ?_ hpl hF fun b o e => hk b o (hne e) (up b o e)
    cases e : s₁.heap.get? D with
    | none => rfl
    | some o => have := up _ _ e; rw [hD] at this; cases this
end
theorem kl_cut_get : ∀ {l : List Value} {k : Nat} {y : Value}, l[k]? = some y → kl_cut l k = some (l.take k, y, l.drop (k + 1))
  | [], _, _, h => by simp at h
  | x :: r, 0, y, h => by
    obtain rfl : x = y := Option.some.inj h
    rfl
  | x :: r, k + 1, y, h => by
    have ih := kl_cut_get (l := r) (k := k) (y := y) (by simpa using h)
    show (match kl_cut r k with | some (p, z, q) => some (x :: p, z, q) | none => none) = _
    rw [ih]; rfl
theorem seqIndex_nat {r n : Nat} (h : r < n) : seqIndex? (r : Int) n = some r := by
  unfold seqIndex?
  have h1 : ¬ ((r : Int) < 0) := by omega
  have h2 : (decide (0 ≤ (r : Int)) && decide ((r : Int) < (n : Int))) = true := by
    rw [Bool.and_eq_true]; exact ⟨decide_eq_true (by omega), decide_eq_true (by omega)⟩
  simp [h1, h2]
  exact h
/-- the first text of the tuple a value stands for -/
noncomputable def fstV (h : Heap) (v : Value) : Str := match itemsAt h v with
  | .str x _ :: _ => x
  | _ => Str.ofString ""
theorem fsts_are {tt : List (Addr × Obj)} {h : Heap} (N : ∀ p ∈ tt, h.get? p.1 = some p.2) : ∀ {vr ys : List Value} {rows : List (Str × Str × Nat)}, Paired (fun v (r : Str × Str × Nat) => ∃ t u1 u2 u3 c, v = .ref t ∧ (t, tupO [.str r.1 u1, .str r.2.1 u2, .int (r.2.2 : Int) u3] c) ∈ tt) vr rows →
    Paired (fun v y : Value => ∃ u, y = .str (fstV h v) u) vr ys → StrsAre ys (rows.map (·.1))
  | _, _, _, .nil, .nil => .nil
  | v :: vr, y :: ys, r :: rows, .cons a hr, .cons b hy => by
    obtain ⟨t, u1, u2, u3, c, rfl, m⟩ := a
    obtain ⟨u, rfl⟩ := b
    have e : fstV h (.ref t) = r.1 := by
      have e0 : h.get? t = some (tupO [.str r.1 u1, .str r.2.1 u2, .int (r.2.2 : Int) u3] c) := N _ m
      simp [fstV, itemsAt, e0]
    rw [e]
    exact .cons _ u (fsts_are N hr hy)
/-- the row above: the root, or an element made before -/
noncomputable def PeOk (els : List Nat) (k : Nat) (a : Int) (pe : Nat) : Prop := (a = -1 ∧ pe = 0) ∨ ∃ j : Nat, j < k ∧ a = (j : Int) ∧ els[j]? = some pe
/-- what the made rows, elements, arounds, told and others have to do with one another -/
structure MadeInv (rs : List Row) (els : List Nat) (as : List Int) (td : TD) (ot : List Nat) : Prop where
  la : as.length = els.length
  lt : td.length = els.length
  root : ∃ r, rs[0]? = some r ∧ r.kind = Str.ofString "root" ∧ r.par = none ∧ r.nss = []
  el : ∀ (k : Nat) (e : Nat), els[k]? = some e → ∃ r a rows pe rp, rs[e]? = some r ∧ r.kind = Str.ofString "element" ∧ as[k]? = some a ∧ td[k]? = some rows ∧ r.nss = rows.map (fun x => x.2.2) ∧ r.par = some pe ∧ PeOk els k a pe ∧ rs[pe]? = some rp ∧ e ∈ rp.ch
  tell : ∀ (k : Nat) (rows : List (Str × Str × Nat)), td[k]? = some rows → (rows.map (fun x => x.1)).Nodup ∧ ∀ x ∈ rows, (x.1 = Str.ofString "" ∨ x.1 = Str.ofString "p" ∨ x.1 = Str.ofString "q") ∧
    ∃ q e, rs[x.2.2]? = some q ∧ els[k]? = some e ∧ q.kind = Str.ofString "namespace" ∧ q.name = x.1 ∧ q.value = x.2.1 ∧ q.par = some e
  oth : ∀ o ∈ ot, ∃ q, rs[o]? = some q ∧ (q.kind == Str.ofString "element") = false
  nodup : els.Nodup
  low : ∀ (x : Nat) r, rs[x]? = some r → r.nss.Nodup ∧ (∀ j, j ∈ r.ch ∨ j ∈ r.nss → j < rs.length) ∧ r.ch.length ≤ rs.length ∧ r.ats.length ≤ rs.length ∧ r.nss.length ≤ rs.length
/-- the rows after a row is added beneath the i-th, and told in one of its lists -/
noncomputable abbrev grown (rs : List Row) (i k : Nat) (r new : Row) : List Row := (rs ++ [new]).set i (addTo k r rs.length)
theorem grown_len {rs : List Row} {i k : Nat} {r new : Row} : (grown rs i k r new).length = rs.length + 1 := by simp [grown]
theorem grown_old {rs : List Row} {i k : Nat} {r new : Row} {x : Nat} {q : Row} (h : rs[x]? = some q) (hx : x ≠ i) : (grown rs i k r new)[x]? = some q := by
  have h1 := (List.getElem?_eq_some_iff.mp h).1
  unfold grown
  rw [List.getElem?_set, if_neg (fun e => hx e.symm), List.getElem?_append_left h1]; exact h
theorem grown_at {rs : List Row} {i k : Nat} {r new : Row} {q : Row} (h : rs[i]? = some q) : (grown rs i k r new)[i]? = some (addTo k r rs.length) := by
  have h1 := (List.getElem?_eq_some_iff.mp h).1
  unfold grown
  rw [List.getElem?_set, if_pos rfl, if_pos (by rw [List.length_append]; omega)]
theorem grown_new {rs : List Row} {i k : Nat} {r new : Row} {q : Row} (h : rs[i]? = some q) : (grown rs i k r new)[rs.length]? = some new := by
  have h1 := (List.getElem?_eq_some_iff.mp h).1
  unfold grown
  rw [List.getElem?_set, if_neg (Nat.ne_of_lt h1), List.getElem?_append_right (Nat.le_refl _), Nat.sub_self]; rfl
theorem grown_inv {rs : List Row} {i k : Nat} {r new : Row} {x : Nat} {q : Row} (h : (grown rs i k r new)[x]? = some q) : (x ≠ i ∧ rs[x]? = some q) ∨ (x = i ∧ q = addTo k r rs.length) ∨ (x = rs.length ∧ q = new) := by
  unfold grown at h
  rw [List.getElem?_set] at h
  split at h
  · rename_i e
    split at h
    · exact .inr (.inl ⟨e.symm, (Option.some.inj h).symm⟩)
    · cases h
  · rename_i e
    by_cases hx : x < rs.length
    · rw [List.getElem?_append_left hx] at h
      exact .inl ⟨fun q => e q.symm, h⟩
    · have h1 := (List.getElem?_eq_some_iff.mp h).1
      rw [List.length_append, List.length_singleton] at h1
      have h2 : x = rs.length := by omega
      subst h2
      rw [List.getElem?_append_right (Nat.le_refl _), Nat.sub_self] at h
      exact .inr (.inr ⟨rfl, (Option.some.inj h).symm⟩)
/-- a row that grew keeps all but its lists -/
structure Kin (q q' : Row) : Prop where
  kind : q'.kind = q.kind
  name : q'.name = q.name
  value : q'.value = q.value
  par : q'.par = q.par
  ch : ∀ j ∈ q.ch, j ∈ q'.ch
theorem kin_addTo {k : Nat} {r : Row} {j : Nat} : Kin r (addTo k r j) := by
  match k with
  | 0 => exact ⟨rfl, rfl, rfl, rfl, fun j h => List.mem_append_left _ h⟩
  | 1 => exact ⟨rfl, rfl, rfl, rfl, fun j h => h⟩
  | _ + 2 => exact ⟨rfl, rfl, rfl, rfl, fun j h => h⟩
theorem grown_kin {rs : List Row} {i k : Nat} {r new : Row} (hr : rs[i]? = some r) {x : Nat} {q : Row} (h : rs[x]? = some q) : ∃ q', (grown rs i k r new)[x]? = some q' ∧ Kin q q' ∧ (k < 2 ∨ x ≠ i → q'.nss = q.nss) := by
  by_cases hx : x = i
  · subst hx
    rw [hr] at h
    obtain rfl := Option.some.inj h
    refine ⟨_, grown_at hr, kin_addTo, fun h => ?_⟩
    rcases h with h | h
    · match k with
      | 0 => rfl
      | 1 => rfl
    · exact absurd rfl h
  · exact ⟨q, grown_old h hx, ⟨rfl, rfl, rfl, rfl, fun _ h => h⟩, fun _ => rfl⟩
theorem MadeInv.ext {rs : List Row} {els : List Nat} {as : List Int} {td : TD} {ot : List Nat} (h : MadeInv rs els as td ot) {i k : Nat} {r new : Row} (hr : rs[i]? = some r) (hk : k < 3) (hn : new.ch = [] ∧ new.ats = [] ∧ new.nss = []) (hs : k < 2 ∨ ∀ e, e ∈ els → e ≠ i) (hi0 : k < 2 ∨ i ≠ 0) :
    MadeInv (grown rs i k r new) els as td ot := by
  have low : ∀ (x : Nat) r', (grown rs i k r new)[x]? = some r' → r'.nss.Nodup ∧ (∀ j, j ∈ r'.ch ∨ j ∈ r'.nss → j < (grown rs i k r new).length) ∧ r'.ch.length ≤ (grown rs i k r new).length ∧ r'.ats.length ≤ (grown rs i k r new).length ∧ r'.nss.length ≤ (grown rs i k r new).length := fun x r' hx => by
    rw [grown_len]
    rcases grown_inv hx with ⟨_, hx⟩ | ⟨rfl, rfl⟩ | ⟨rfl, rfl⟩
    · obtain ⟨a, b, c, d, e⟩ := h.low x r' hx
      exact ⟨a, fun j hj => Nat.lt_succ_of_lt (b j hj), by omega, by omega, by omega⟩
    · obtain ⟨a, b, c, d, e⟩ := h.low x r hr
      match k with
      | 0 =>
        refine ⟨a, fun j hj => ?_, ?_, by show r.ats.length ≤ _; omega, by show r.nss.length ≤ _; omega⟩
        · rcases hj with hj | hj
          · rcases List.mem_append.mp hj with hj | hj
            · exact Nat.lt_succ_of_lt (b j (.inl hj))
            · rw [List.mem_singleton.mp hj]; exact Nat.lt_succ_self _
          · exact Nat.lt_succ_of_lt (b j (.inr hj))
        · show (r.ch ++ [_]).length ≤ _
          rw [List.length_append, List.length_singleton]; omega
      | 1 =>
        refine ⟨a, fun j hj => Nat.lt_succ_of_lt (b j hj), by show r.ch.length ≤ _; omega, ?_, by show r.nss.length ≤ _; omega⟩
        show (r.ats ++ [_]).length ≤ _
        rw [List.length_append, List.length_singleton]; omega
      | 2 =>
        refine ⟨?_, fun j hj => ?_, by show r.ch.length ≤ _; omega, by show r.ats.length ≤ _; omega, ?_⟩
        · show (r.nss ++ [_]).Nodup
          rw [List.nodup_append]
          refine ⟨a, (by simp), fun u hu v hv e => ?_⟩
          rw [List.mem_singleton.mp hv] at e
          have := b u (.inr hu)
          omega
        · rcases hj with hj | hj
          · exact Nat.lt_succ_of_lt (b j (.inl hj))
          · rcases List.mem_append.mp hj with hj | hj
            · exact Nat.lt_succ_of_lt (b j (.inr hj))
            · rw [List.mem_singleton.mp hj]; exact Nat.lt_succ_self _
        · show (r.nss ++ [_]).length ≤ _
          rw [List.length_append, List.length_singleton]; omega
    · obtain ⟨h1, h2, h3⟩ := hn
      rw [h1, h2, h3]
      refine ⟨List.nodup_nil, fun j hj => ?_, Nat.zero_le _, Nat.zero_le _, Nat.zero_le _⟩
      rcases hj with hj | hj <;> cases hj
  refine ⟨h.la, h.lt, ?_, fun n e he => ?_, fun n rows hrows => ?_, fun o ho => ?_, h.nodup, low⟩
  · obtain ⟨r0, a, b, c, d⟩ := h.root
    obtain ⟨q', h1, h2, h3⟩ := grown_kin (k := k) (new := new) hr a
    refine ⟨q', h1, h2.kind.trans b, h2.par.trans c, (h3 (hi0.imp id fun e q => e q.symm)).trans d⟩
  · obtain ⟨q, a, rows, pe, rp, h1, h2, h3, h4, h5, h6, h7, h8, h9⟩ := h.el n e he
    obtain ⟨q', g1, g2, g3⟩ := grown_kin (k := k) (new := new) hr h1
    obtain ⟨rp', g4, g5, _⟩ := grown_kin (k := k) (new := new) hr h8
    exact ⟨q', a, rows, pe, rp', g1, g2.kind.trans h2, h3, h4, (g3 (hs.imp id fun hs => hs e (List.mem_of_getElem? he))).trans h5, g2.par.trans h6, h7, g4, g5.ch _ h9⟩
  · obtain ⟨h1, h2⟩ := h.tell n rows hrows
    refine ⟨h1, fun x hx => ?_⟩
    obtain ⟨h3, q, e, h4, h5, h6, h7, h8, h9⟩ := h2 x hx
    obtain ⟨q', g1, g2, _⟩ := grown_kin (k := k) (new := new) hr h4
    exact ⟨h3, q', e, g1, h5, g2.kind.trans h6, g2.name.trans h7, g2.value.trans h8, g2.par.trans h9⟩
  · obtain ⟨q, h1, h2⟩ := h.oth o ho
    obtain ⟨q', g1, g2, _⟩ := grown_kin (k := k) (new := new) hr h1
    exact ⟨q', g1, by rw [g2.kind]; exact h2⟩
theorem app_get {α : Type} {l : List α} {a b : α} {k : Nat} (h : (l ++ [a])[k]? = some b) : (k < l.length ∧ l[k]? = some b) ∨ (k = l.length ∧ b = a) := by
  by_cases hk : k < l.length
  · rw [List.getElem?_append_left hk] at h; exact .inl ⟨hk, h⟩
  · have h1 := (List.getElem?_eq_some_iff.mp h).1
    rw [List.length_append, List.length_singleton] at h1
    have h2 : k = l.length := by omega
    subst h2
    rw [List.getElem?_append_right (Nat.le_refl _), Nat.sub_self] at h
    exact .inr ⟨rfl, (Option.some.inj h).symm⟩
theorem get_app {α : Type} {l : List α} {a b : α} {k : Nat} (h : l[k]? = some b) : (l ++ [a])[k]? = some b := by
  rw [List.getElem?_append_left (List.getElem?_eq_some_iff.mp h).1]; exact h
theorem get_end {α : Type} {l : List α} {a : α} : (l ++ [a])[l.length]? = some a := by
  rw [List.getElem?_append_right (Nat.le_refl _), Nat.sub_self]; rfl
theorem PeOk.app {els : List Nat} {k : Nat} {a : Int} {pe e : Nat} (h : PeOk els k a pe) : PeOk (els ++ [e]) k a pe := h.imp id fun ⟨j, h1, h2, h3⟩ => ⟨j, h1, h2, get_app h3⟩
theorem MadeInv.start {r : Row} (h1 : r.kind = Str.ofString "root") (h2 : r.par = none) (h3 : r.nss = []) (h4 : r.ch = []) (h5 : r.ats = []) : MadeInv [r] [] [] [] [0] := by
  refine ⟨rfl, rfl, ⟨r, rfl, h1, h2, h3⟩, fun k e h => by simp at h, fun k rows h => by simp at h, fun o ho => ?_, List.nodup_nil, fun x q hq => ?_⟩
  · rw [List.mem_singleton.mp ho]; exact ⟨r, rfl, by rw [h1]; decide +kernel⟩
  · have hx : x = 0 := by
      have := (List.getElem?_eq_some_iff.mp hq).1
      rw [List.length_singleton] at this; omega
    subst hx
    obtain rfl : r = q := Option.some.inj hq
    rw [h3, h4, h5]
    refine ⟨List.nodup_nil, fun j hj => ?_, Nat.zero_le _, Nat.zero_le _, Nat.zero_le _⟩
    rcases hj with hj | hj <;> cases hj
theorem MadeInv.low_el {rs : List Row} {els : List Nat} {as : List Int} {td : TD} {ot : List Nat} (h : MadeInv rs els as td ot) {e : Nat} (he : e ∈ els) : e < rs.length ∧ e ≠ 0 := by
  obtain ⟨k, hk, e1⟩ := List.getElem_of_mem he
  obtain ⟨r, a, rows, pe, rp, h1, h2, _⟩ := h.el k e (by rw [List.getElem?_eq_getElem hk, e1])
  refine ⟨(List.getElem?_eq_some_iff.mp h1).1, fun e0 => ?_⟩
  obtain ⟨r0, g1, g2, _⟩ := h.root
  rw [e0, g1] at h1
  obtain rfl := Option.some.inj h1
  rw [g2] at h2
  exact absurd h2 (by decide +kernel)
theorem MadeInv.add_el {rs : List Row} {els : List Nat} {as : List Int} {td : TD} {ot : List Nat} (h : MadeInv rs els as td ot) {a : Int} {pe : Nat} {rp new : Row} (hpe : PeOk els els.length a pe) (hr : rs[pe]? = some rp)
    (hk : new.kind = Str.ofString "element") (hp : new.par = some pe) (hn : new.ch = [] ∧ new.ats = [] ∧ new.nss = []) : MadeInv (grown rs pe 0 rp new) (els ++ [rs.length]) (as ++ [a]) (td ++ [[]]) ot := by
  have g := h.ext (k := 0) hr (by decide) hn (.inl (by decide)) (.inl (by decide))
  refine ⟨?_, ?_, g.root, fun k e he => ?_, fun k rows hrows => ?_, g.oth, ?_, g.low⟩
  · rw [List.length_append, List.length_append, h.la]; rfl
  · rw [List.length_append, List.length_append, h.lt]; rfl
  · rcases app_get he with ⟨hk', he⟩ | ⟨rfl, rfl⟩
    · obtain ⟨q, a', rows, pe', rp', h1, h2, h3, h4, h5, h6, h7, h8, h9⟩ := g.el k e he
      exact ⟨q, a', rows, pe', rp', h1, h2, get_app h3, get_app h4, h5, h6, h7.app, h8, h9⟩
    · exact ⟨new, a, [], pe, _, grown_new hr, hk, by rw [← h.la]; exact get_end, by rw [← h.lt]; exact get_end, hn.2.2, hp, hpe.app, grown_at hr, List.mem_append_right _ (.head _)⟩
  · rcases app_get hrows with ⟨hk', hrows⟩ | ⟨rfl, rfl⟩
    · obtain ⟨h1, h2⟩ := g.tell k rows hrows
      refine ⟨h1, fun x hx => ?_⟩
      obtain ⟨h3, q, e, h4, h5, h6⟩ := h2 x hx
      exact ⟨h3, q, e, h4, get_app h5, h6⟩
    · exact ⟨List.nodup_nil, fun x hx => nomatch hx⟩
  · rw [List.nodup_append]
    refine ⟨h.nodup, (by simp), fun u hu v hv e => ?_⟩
    rw [List.mem_singleton.mp hv] at e
    have := (h.low_el hu).1
    omega
theorem MadeInv.add_ns {rs : List Row} {els : List Nat} {as : List Int} {td : TD} {rows : List (Str × Str × Nat)} {ot : List Nat} (h : MadeInv rs els as (td ++ [rows]) ot) {e : Nat} {r new : Row} {pre uri : Str} (he : els[td.length]? = some e) (hr : rs[e]? = some r)
    (hpre : pre = Str.ofString "" ∨ pre = Str.ofString "p" ∨ pre = Str.ofString "q") (hnew : pre ∉ rows.map (fun x => x.1)) (hk : new.kind = Str.ofString "namespace") (hnm : new.name = pre) (hv : new.value = uri) (hp : new.par = some e) (hn : new.ch = [] ∧ new.ats = [] ∧ new.nss = []) :
    MadeInv (grown rs e 2 r new) els as (td ++ [rows ++ [(pre, uri, rs.length)]]) ot := by
  obtain ⟨q0, a0, rows0, pe0, rp0, m1, m2, m3, m4, m5, m6, m7, m8, m9⟩ := h.el td.length e he
  obtain rfl : rows = rows0 := Option.some.inj (get_end.symm.trans m4)
  obtain rfl : r = q0 := Option.some.inj (hr.symm.trans m1)
  have hkin : ∀ {x : Nat} {q : Row}, rs[x]? = some q → ∃ q', (grown rs e 2 r new)[x]? = some q' ∧ Kin q q' ∧ (x ≠ e → q'.nss = q.nss) := fun hx => by
    obtain ⟨q', a, b, c⟩ := grown_kin (k := 2) (new := new) hr hx
    exact ⟨q', a, b, fun e => c (.inr e)⟩
  have hlt' : td.length < els.length := (List.getElem?_eq_some_iff.mp he).1
  refine ⟨h.la, ?_, ?_, fun k e' he' => ?_, fun k rows' hrows => ?_, fun o ho => ?_, h.nodup, ?_⟩
  · have := h.lt
    rw [List.length_append] at this ⊢; exact this
  · obtain ⟨r0, a, b, c, d⟩ := h.root
    obtain ⟨q', h1, h2, h3⟩ := hkin a
    exact ⟨q', h1, h2.kind.trans b, h2.par.trans c, (h3 (Ne.symm (h.low_el (List.mem_of_getElem? he)).2)).trans d⟩
  · obtain ⟨q, a, rows1, pe, rp, h1, h2, h3, h4, h5, h6, h7, h8, h9⟩ := h.el k e' he'
    obtain ⟨rp', g4, g5, _⟩ := hkin h8
    by_cases hke : k = td.length
    · subst hke
      obtain rfl : e = e' := Option.some.inj (he.symm.trans he')
      obtain rfl : r = q := Option.some.inj (hr.symm.trans h1)
      refine ⟨_, a, rows ++ [(pre, uri, rs.length)], pe, rp', grown_at hr, h2, h3, get_end, ?_, h6, h7, g4, g5.ch _ h9⟩
      show r.nss ++ [rs.length] = _
      rw [m5, List.map_append]; rfl
    · obtain ⟨q', g1, g2, g3⟩ := hkin h1
      have hne : e' ≠ e := fun q => by
        subst q
        exact hke ((List.getElem?_inj (List.getElem?_eq_some_iff.mp he').1 h.nodup).mp (he'.trans he.symm))
      rcases app_get h4 with ⟨_, h4⟩ | ⟨q, _⟩
      · exact ⟨q', a, rows1, pe, rp', g1, g2.kind.trans h2, h3, get_app h4, (g3 hne).trans h5, g2.par.trans h6, h7, g4, g5.ch _ h9⟩
      · exact absurd q hke
  · have old : ∀ {rows1 : List (Str × Str × Nat)}, (td ++ [rows])[k]? = some rows1 → (rows1.map (fun x => x.1)).Nodup ∧ ∀ x ∈ rows1, (x.1 = Str.ofString "" ∨ x.1 = Str.ofString "p" ∨ x.1 = Str.ofString "q") ∧
        ∃ q e', (grown rs e 2 r new)[x.2.2]? = some q ∧ els[k]? = some e' ∧ q.kind = Str.ofString "namespace" ∧ q.name = x.1 ∧ q.value = x.2.1 ∧ q.par = some e' := fun hx => by
      obtain ⟨h1, h2⟩ := h.tell k _ hx
      refine ⟨h1, fun x hx => ?_⟩
      obtain ⟨h3, q, e', h4, h5, h6, h7, h8, h9⟩ := h2 x hx
      obtain ⟨q', g1, g2, _⟩ := hkin h4
      exact ⟨h3, q', e', g1, h5, g2.kind.trans h6, g2.name.trans h7, g2.value.trans h8, g2.par.trans h9⟩
    rcases app_get hrows with ⟨_, hx⟩ | ⟨rfl, rfl⟩
    · exact old (get_app hx)
    · obtain ⟨o1, o2⟩ := old get_end
      refine ⟨?_, fun x hx => ?_⟩
      · rw [List.map_append, List.nodup_append]
        refine ⟨o1, (by simp), fun u hu v hv e' => ?_⟩
        have hv' : v = pre := List.mem_singleton.mp hv
        rw [hv'] at e'; rw [e'] at hu; exact hnew hu
      · rcases List.mem_append.mp hx with hx | hx
        · exact o2 x hx
        · rw [List.mem_singleton.mp hx]
          exact ⟨hpre, new, e, grown_new hr, he, hk, hnm, hv, hp⟩
  · obtain ⟨q, h1, h2⟩ := h.oth o ho
    obtain ⟨q', g1, g2, _⟩ := hkin h1
    exact ⟨q', g1, by rw [g2.kind]; exact h2⟩
  · have hh : MadeInv rs [] [] [] ot := ⟨rfl, rfl, h.root, fun k e h => by simp at h, fun k rows h => by simp at h, h.oth, List.nodup_nil, h.low⟩
    exact (hh.ext (k := 2) hr (by decide) hn (.inr fun e he => nomatch he) (.inr (h.low_el (List.mem_of_getElem? he)).2)).low
theorem MadeInv.add_ot {rs : List Row} {els : List Nat} {as : List Int} {td : TD} {ot : List Nat} (h : MadeInv rs els as td ot) {i k : Nat} {r new : Row} (hr : rs[i]? = some r) (hk : k < 2) (hn : new.ch = [] ∧ new.ats = [] ∧ new.nss = []) (hkd : (new.kind == Str.ofString "element") = false) :
    MadeInv (grown rs i k r new) els as td (ot ++ [rs.length]) := by
  have g := h.ext (k := k) hr (by omega) hn (.inl hk) (.inl hk)
  refine ⟨g.la, g.lt, g.root, g.el, g.tell, fun o ho => ?_, g.nodup, g.low⟩
  rcases List.mem_append.mp ho with ho | ho
  · exact g.oth o ho
  · rw [List.mem_singleton.mp ho]; exact ⟨new, grown_new hr, hkd⟩
/-- what was told, in a ledger -/
noncomputable def TupM (tt : List (Addr × Obj)) (v : Value) (r : Str × Str × Nat) : Prop := ∃ t u1 u2 u3 c, v = .ref t ∧ (t, tupO [.str r.1 u1, .str r.2.1 u2, .int (r.2.2 : Int) u3] c) ∈ tt
noncomputable def RowsM (tt : List (Addr × Obj)) (v : Value) (rows : List (Str × Str × Nat)) : Prop := ∃ a ws c, v = .ref a ∧ (a, W.listOf ws.toArray c) ∈ tt ∧ Paired (TupM tt) ws rows
theorem TupM.mono {tt tt' : List (Addr × Obj)} (hs : ∀ p ∈ tt, p ∈ tt') {v : Value} {r : Str × Str × Nat} (h : TupM tt v r) : TupM tt' v r := let ⟨t, a, b, c, d, e, m⟩ := h; ⟨t, a, b, c, d, e, hs _ m⟩
theorem RowsM.mono {tt tt' : List (Addr × Obj)} (hs : ∀ p ∈ tt, p ∈ tt') {v : Value} {r : List (Str × Str × Nat)} (h : RowsM tt v r) : RowsM tt' v r := let ⟨a, ws, c, e, m, q⟩ := h; ⟨a, ws, c, e, hs _ m, paired_mono (fun _ _ x => x.mono hs) q⟩
theorem told_at {tt : List (Addr × Obj)} {h : Heap} (N : ∀ p ∈ tt, h.get? p.1 = some p.2) {vs : List Value} {td : TD} (q : Paired (RowsM tt) vs td) : Paired (RowsAt h) vs td :=
  paired_mono (fun _ _ ⟨a, ws, c, e, m, q⟩ => ⟨a, ws, e, ⟨c, N _ m⟩, paired_mono (fun _ _ ⟨t, u1, u2, u3, c, e, m⟩ => ⟨t, u1, u2, u3, c, e, N _ m⟩) q⟩) q
theorem paired_snoc {α β : Type} {F : α → β → Prop} {l : List α} {r : List β} {a : α} {b : β} (h : Paired F l r) (x : F a b) : Paired F (l ++ [a]) (r ++ [b]) := by
  induction h with
  | nil => exact .cons x .nil
  | cons y _ ih => exact .cons y ih
noncomputable abbrev ToldR := Str × Str × Nat
theorem nodup_len {α : Type} [DecidableEq α] : ∀ {l s : List α}, l.Nodup → (∀ x ∈ l, x ∈ s) → l.length ≤ s.length
  | [], _, _, _ => Nat.zero_le _
  | x :: r, s, hn, h => by
    have hx := h x (.head _)
    have h1 := nodup_len (l := r) (s := s.erase x) (List.nodup_cons.mp hn).2 fun y hy => (List.mem_erase_of_ne (fun e => (List.nodup_cons.mp hn).1 (by rw [← e]; exact hy))).mpr (h y (.tail _ hy))
    rw [List.length_erase_of_mem hx] at h1
    have := List.length_pos_of_mem hx
    rw [List.length_cons]; omega
/-- one lot, told by rows -/
noncomputable def lotR : List ToldR → List Str → List Nat × List Str
  | [], met => ([], met)
  | x :: r, met => if x.1 ∈ met then lotR r met else
      (if x.2.1 ≠ Str.ofString "" then x.2.2 :: (lotR r (x.1 :: met)).1 else (lotR r (x.1 :: met)).1, (lotR r (x.1 :: met)).2)
noncomputable def lotsR (td : TD) : List Nat → List Str → List (List Nat)
  | [], _ => []
  | j :: r, met => (lotR (tdAt td j) met).1 :: lotsR td r (lotR (tdAt td j) met).2
theorem lotOf_rows {rs : List Row} : ∀ {rows : List ToldR} {met : List Str}, (∀ x ∈ rows, nmOf rs x.2.2 = x.1 ∧ vlOf rs x.2.2 = x.2.1) → lotOf rs (rows.map fun x => x.2.2) met = lotR rows met
  | [], _, _ => rfl
  | x :: r, met, h => by
    obtain ⟨h1, h2⟩ := h x (.head _)
    have ih1 := lotOf_rows (rs := rs) (rows := r) (met := met) fun y hy => h y (.tail _ hy)
    have ih2 := lotOf_rows (rs := rs) (rows := r) (met := x.1 :: met) fun y hy => h y (.tail _ hy)
    rw [List.map_cons]
    unfold lotOf lotR
    rw [h1, h2, ih1, ih2]
theorem lotR_met : ∀ {rows : List ToldR} {met : List Str} {y : Str}, y ∈ (lotR rows met).2 ↔ y ∈ met ∨ ∃ x ∈ rows, x.1 = y
  | [], met, y => by simp [lotR]
  | x :: r, met, y => by
    unfold lotR
    by_cases hx : x.1 ∈ met
    · rw [if_pos hx, lotR_met (rows := r)]
      constructor
      · rintro (h | ⟨z, hz, e⟩)
        · exact .inl h
        · exact .inr ⟨z, .tail _ hz, e⟩
      · rintro (h | ⟨z, hz, e⟩)
        · exact .inl h
        · rcases List.mem_cons.mp hz with rfl | hz
          · exact .inl (e ▸ hx)
          · exact .inr ⟨z, hz, e⟩
    · rw [if_neg hx]
      show y ∈ (lotR r (x.1 :: met)).2 ↔ _
      rw [lotR_met (rows := r)]
      constructor
      · rintro (h | ⟨z, hz, e⟩)
        · rcases List.mem_cons.mp h with rfl | h
          · exact .inr ⟨x, .head _, rfl⟩
          · exact .inl h
        · exact .inr ⟨z, .tail _ hz, e⟩
      · rintro (h | ⟨z, hz, e⟩)
        · exact .inl (.tail _ h)
        · rcases List.mem_cons.mp hz with rfl | hz
          · exact .inl (e ▸ .head _)
          · exact .inr ⟨z, hz, e⟩
/-- the rows of one lot -/
noncomputable def keepR (met : List Str) (x : ToldR) : Bool := decide (x.1 ∉ met) && decide (x.2.1 ≠ Str.ofString "")
theorem lotR_eq : ∀ {rows : List ToldR} {met : List Str}, (rows.map (·.1)).Nodup → (lotR rows met).1 = (rows.filter (keepR met)).map (·.2.2)
  | [], _, _ => rfl
  | x :: r, met, hn => by
    obtain ⟨h1, h2⟩ := List.nodup_cons.mp (show (x.1 :: r.map (·.1)).Nodup from hn)
    have ih1 := lotR_eq (rows := r) (met := met) h2
    have ih2 := lotR_eq (rows := r) (met := x.1 :: met) h2
    have e : r.filter (keepR (x.1 :: met)) = r.filter (keepR met) := by
      refine List.filter_congr fun y hy => ?_
      have : y.1 ≠ x.1 := fun e => h1 (List.mem_map.mpr ⟨y, hy, e⟩)
      simp [keepR, List.mem_cons, this]
    rw [e] at ih2
    unfold lotR
    rw [List.filter_cons]
    by_cases hx : x.1 ∈ met
    · rw [if_pos hx, ih1]
      simp [keepR, hx]
    · rw [if_neg hx]
      show (if x.2.1 ≠ Str.ofString "" then x.2.2 :: (lotR r (x.1 :: met)).1 else (lotR r (x.1 :: met)).1) = _
      rw [ih2]
      by_cases hv : x.2.1 = Str.ofString ""
      · simp [keepR, hv]
      · simp [keepR, hx, hv]
theorem dueRows_fst {td : TD} {rest : List Nat} : ∀ {rows : List ToldR} {acc : List Nat × DD}, (rows.foldl (dueRow td rest) acc).1 = acc.1 ++ (rows.filter fun x => !(laterB td rest x.1) && decide (x.2.1 ≠ Str.ofString "")).map (·.2.2)
  | [], acc => by simp
  | x :: r, acc => by
    rw [List.foldl_cons, dueRows_fst (rows := r), List.filter_cons]
    unfold dueRow
    by_cases h1 : laterB td rest x.1 = false
    · by_cases h2 : x.2.1 = Str.ofString ""
      · simp [h1, h2]
      · simp [h1, h2]
    · have h1' : laterB td rest x.1 = true := by simpa using h1
      simp [h1']
/-- what the rows nearest tell of a prefix -/
noncomputable def nearR (td : TD) : List Nat → Str → Option Str
  | [], _ => none
  | j :: r, p => match (tdAt td j).find? (fun x => x.1 == p) with
    | some x => some x.2.1
    | none => nearR td r p
theorem dueRows_look {td : TD} {rest : List Nat} {p : Str} : ∀ {rows : List ToldR} {acc : List Nat × DD}, (rows.map (·.1)).Nodup →
    PySem.Spec.lookup (.str p) (rows.foldl (dueRow td rest) acc).2 = if laterB td rest p = true then PySem.Spec.lookup (.str p) acc.2 else
      match rows.find? (fun x => x.1 == p) with
      | some x => if x.2.1 = Str.ofString "" then PySem.Spec.lookup (.str p) acc.2 else some (.str x.2.1)
      | none => PySem.Spec.lookup (.str p) acc.2
  | [], acc, _ => by simp
  | x :: r, acc, hn => by
    obtain ⟨h1, h2⟩ := List.nodup_cons.mp (show (x.1 :: r.map (·.1)).Nodup from hn)
    rw [List.foldl_cons, dueRows_look (rows := r) h2]
    have hd : PySem.Spec.lookup (.str p) (dueRow td rest acc x).2 = if p = x.1 ∧ laterB td rest x.1 = false ∧ x.2.1 ≠ Str.ofString "" then some (.str x.2.1) else PySem.Spec.lookup (.str p) acc.2 := by
      unfold dueRow
      by_cases hc : laterB td rest x.1 = false ∧ x.2.1 ≠ Str.ofString ""
      · rw [if_pos hc]
        show PySem.Spec.lookup (.str p) (PyProof.V.putD (.str x.1) (.str x.2.1) acc.2) = _
        rw [PyProof.Rows.lookup_putD_str]
        by_cases hp : p = x.1
        · rw [if_pos hp, if_pos ⟨hp, hc⟩]
        · rw [if_neg hp, if_neg fun h => hp h.1]
      · rw [if_neg hc, if_neg fun h => hc h.2]
    rw [hd, List.find?_cons]
    by_cases hp : x.1 = p
    · subst hp
      have hf : r.find? (fun y => y.1 == x.1) = none := by
        rw [List.find?_eq_none]
        intro y hy e
        exact h1 (List.mem_map.mpr ⟨y, hy, eq_of_beq e⟩)
      rw [hf]
      cases hl : laterB td rest x.1 with
      | true => simp
      | false =>
        by_cases hv : x.2.1 = Str.ofString ""
        · simp [hv]
        · simp [hv]
    · have hp' : ¬ p = x.1 := fun e => hp e.symm
      have hb : (x.1 == p) = false := beq_eq_false_iff_ne.mpr hp
      simp [hp', hb]
theorem due_line {td : TD} (hnd : ∀ j, ((tdAt td j).map (·.1)).Nodup) : ∀ (l pre : List Nat) (met : List Str) (acc : List Nat × DD), (∀ p, p ∈ met ↔ laterB td pre p = true) →
    ∃ D, dueGo td (l.reverse ++ pre) acc = dueGo td pre (acc.1 ++ (lotsR td l met).reverse.flatten, D) ∧
      ∀ p, PySem.Spec.lookup (.str p) D = if laterB td pre p = true then PySem.Spec.lookup (.str p) acc.2 else match nearR td l p with
        | some u => if u = Str.ofString "" then PySem.Spec.lookup (.str p) acc.2 else some (.str u)
        | none => PySem.Spec.lookup (.str p) acc.2
  | [], pre, met, acc, _ => by
    refine ⟨acc.2, ?_, fun p => ?_⟩
    · simp [lotsR]
    · simp [nearR]
  | j :: l, pre, met, acc, hm => by
    have hm' : ∀ p, p ∈ (lotR (tdAt td j) met).2 ↔ laterB td (j :: pre) p = true := fun p => by
      rw [lotR_met, hm p]
      have e2 : laterB td (j :: pre) p = (((tdAt td j).any fun r => r.1 == p) || laterB td pre p) := rfl
      rw [e2, Bool.or_eq_true, List.any_eq_true]
      constructor
      · rintro (h | ⟨x, hx, e⟩)
        · exact .inr h
        · exact .inl ⟨x, hx, beq_iff_eq.mpr e⟩
      · rintro (⟨x, hx, e⟩ | h)
        · exact .inr ⟨x, hx, eq_of_beq e⟩
        · exact .inl h
    obtain ⟨D, hD, hl⟩ := due_line hnd l (j :: pre) _ acc hm'
    refine ⟨((tdAt td j).foldl (dueRow td pre) (acc.1 ++ (lotsR td l (lotR (tdAt td j) met).2).reverse.flatten, D)).2, ?_, fun p => ?_⟩
    · rw [List.reverse_cons, List.append_assoc, List.singleton_append, hD]
      show dueGo td pre ((tdAt td j).foldl (dueRow td pre) _) = _
      congr 1
      refine Prod.ext ?_ rfl
      rw [dueRows_fst]
      show acc.1 ++ _ ++ _ = acc.1 ++ ((lotR (tdAt td j) met).1 :: lotsR td l (lotR (tdAt td j) met).2).reverse.flatten
      rw [List.reverse_cons, List.flatten_append, List.append_assoc, lotR_eq (hnd j)]
      congr 2
      rw [List.flatten_singleton]
      congr 1
      refine List.filter_congr fun x _ => ?_
      unfold keepR
      congr 1
      cases hb : laterB td pre x.1 with
      | true => simp [(hm x.1).mpr hb]
      | false =>
        have : x.1 ∉ met := fun h => by rw [(hm x.1).mp h] at hb; cases hb
        simp [this]
    · rw [dueRows_look (hnd j), hl p]
      have e2 : laterB td (j :: pre) p = (((tdAt td j).any fun r => r.1 == p) || laterB td pre p) := rfl
      cases hb : laterB td pre p with
      | true => simp [e2, hb]
      | false =>
        have en : nearR td (j :: l) p = (match (tdAt td j).find? (fun x => x.1 == p) with | some x => some x.2.1 | none => nearR td l p) := rfl
        rw [en]
        cases hf : (tdAt td j).find? (fun x => x.1 == p) with
        | some x =>
          have : ((tdAt td j).any fun r => r.1 == p) = true := by
            rw [List.any_eq_true]
            exact ⟨x, List.mem_of_find?_eq_some hf, by simpa using List.find?_some hf⟩
          simp [e2, this]
        | none =>
          have : ((tdAt td j).any fun r => r.1 == p) = false := by
            cases ha : ((tdAt td j).any fun r => r.1 == p) with
            | false => rfl
            | true =>
              obtain ⟨x, hx, e⟩ := List.any_eq_true.mp ha
              exact absurd e (List.find?_eq_none.mp hf x hx)
          simp [e2, this, hb, hf]
theorem ne_nil {w : World} {A : Around} {E : Value → Shared → Prop} {s : Shared} {h₀ : Heap} {L a b : Addr} {news : List (Addr × Obj)} {xs : List Value} {n n2 : Nat} {ns : List Int} {Q : Value → Shared → Prop} (N : News h₀ L s.heap news) (m1 : (a, W.listOf xs.toArray n) ∈ news) (m2 : (b, W.listOf #[] n2) ∈ news) (hi : IntsAre xs ns) (hu : A.units + 64 < cLine)
    (h : Q (.bool (!decide (ns = []))) s) : wpAny (model prg w) A (compareOp .NotEq (.ref a) (.ref b)) Q E s :=
  ke_ne_ints (xs := xs) (ys := []) ⟨_, (N _ m1).1, rfl, n, rfl⟩ ⟨_, (N _ m2).1, rfl, n2, rfl⟩ hi .nil hu h
theorem last_news {w : World} {A : Around} {E : Value → Shared → Prop} {s : Shared} {h₀ : Heap} {L a : Addr} {news : List (Addr × Obj)} {vs : List Value} {n : Nat} {value slice : PySem.Expr} {u : Tok} {v : Value} {Q : Value → Shared → Prop}
    (N : News h₀ L s.heap news) (hm : (a, W.listOf vs.toArray n) ∈ news) (hx : vs[vs.length - 1]? = some v) (h : Q v s)
    (hs : subscripted slice false (.ref a) (.int (-1) u) = operate [.ref a, .int (-1) u] (getItem (.ref a) (.int (-1) u)) := by with_unfolding_all rfl) :
    wpAny (model prg w) A (subscriptTail value slice (.ref a) (.int (-1) u)) Q E s :=
  have hL : s.heap.IsList a vs.toArray := ⟨_, (N _ hm).1, rfl, n, rfl⟩
  have hlt : vs.length - 1 < vs.length := (List.getElem?_eq_some_iff.mp hx).1
  tail_any hL.typeIs slot_list_getitem.lookup (wpAny_getItem_list_neg hL (by decide) (by rw [List.size_toArray]; omega) (by decide) (by
    have e : ((-1 : Int) + (vs.toArray.size : Nat)).toNat = vs.length - 1 := by rw [List.size_toArray]; omega
    rw [e]; simpa using hx) h) hs
theorem rangeN (n : Nat) (hn : n ≤ 1000) : Builtin.Range.small 0 (n : Int) 1 = true ∧ Builtin.Range.rangeSize 0 (n : Int) 1 = (n : Int) :=
  ⟨small_one (by omega) (by omega) (by omega) (by omega), by rw [rangeSize_one]; split <;> omega⟩
/-- what stands between the turns of the outer loop of _law_made -/
inductive MaJ (P : Params) (T dT R S El Ar Td Ot : Addr) (t0 : Tok) (o0 : List (Addr × Obj)) : Nat → (Str → Option Value) → List (Addr × Obj) → Prop
  | mk {k : Nat} {m : Str → Option Value} {x y : Int} {t1 t2 : Tok} {n n1 n2 n3 n4 : Nat} {els ot : List Nat} {as : List Int} {td : TD} {ve va vd vo : List Value} {rs : List Row} {tt tl : List (Addr × Obj)} :
    Has m [(Str.ofString "source", .ref S), (Str.ofString "tree", .ref T), (Str.ofString "root", .int ((0 : Nat) : Int) t0), (Str.ofString "elements", .ref El), (Str.ofString "arounds", .ref Ar), (Str.ofString "told", .ref Td), (Str.ofString "others", .ref Ot)] →
    0 ≤ x → 0 ≤ y → IntsAre ve (els.map Int.ofNat) → IntsAre va as → Paired (RowsM tt) vd td → IntsAre vo (ot.map Int.ofNat) → TreeM P T dT R rs tl → Disj tt tl →
    (∀ p ∈ tt ++ tl, p.1 ≠ S) → (∀ p ∈ tt ++ tl, p.1 ≠ El) → (∀ p ∈ tt ++ tl, p.1 ≠ Ar) → (∀ p ∈ tt ++ tl, p.1 ≠ Td) → (∀ p ∈ tt ++ tl, p.1 ≠ Ot) → MadeInv rs els as td ot → els.length = k → rs.length ≤ 1 + 6 * k → ot.length ≤ 1 + 2 * k → (∀ q ∈ o0, q ∈ tt) →
    MaJ P T dT R S El Ar Td Ot t0 o0 k m ((S, srcO x y t1 t2 n) :: (El, W.listOf ve.toArray n1) :: (Ar, W.listOf va.toArray n2) :: (Td, W.listOf vd.toArray n3) :: (Ot, W.listOf vo.toArray n4) :: (tt ++ tl))
noncomputable def PreOk (s : Str) : Prop := s = Str.ofString "" ∨ s = Str.ofString "p" ∨ s = Str.ofString "q"
/-- what stands between the turns of the inner loop of _law_made -/
inductive MaI (P : Params) (T dT R S El Ar Td Ot Px Rw I : Addr) (it oEl oAr oTd oOt : Obj) (t0 : Tok) (els : List Nat) (as : List Int) (td : TD) (vd : List Value) (ot : List Nat) (e b : Nat) (o0 : List (Addr × Obj)) : Nat → (Str → Option Value) → List (Addr × Obj) → Prop
  | mk {k : Nat} {m : Str → Option Value} {x y : Int} {t1 t2 : Tok} {n n1 n2 : Nat} {vp vr : List Value} {rows : List (Str × Str × Nat)} {rs : List Row} {re : Row} {tt tl : List (Addr × Obj)} :
    Has m [(Str.ofString "source", .ref S), (Str.ofString "tree", .ref T), (Str.ofString "root", .int ((0 : Nat) : Int) t0), (Str.ofString "elements", .ref El), (Str.ofString "arounds", .ref Ar), (Str.ofString "told", .ref Td), (Str.ofString "others", .ref Ot), (Str.ofString "prefixes", .ref Px), (Str.ofString "rows", .ref Rw)] →
    0 ≤ x → 0 ≤ y → vp.length + k = 4 → (∀ v ∈ vp, ∃ s u, v = .str s u ∧ PreOk s) → Paired (TupM tt) vr rows → rows.length ≤ k → Paired (RowsM tt) vd td → TreeM P T dT R rs tl → Disj tt tl →
    (∀ p ∈ tt ++ tl, p.1 ≠ S) → (∀ p ∈ tt ++ tl, p.1 ≠ Px) → (∀ p ∈ tt ++ tl, p.1 ≠ Rw) → (∀ p ∈ tt ++ tl, p.1 ≠ I) → (∀ p ∈ tt ++ tl, p.1 ≠ El) → (∀ p ∈ tt ++ tl, p.1 ≠ Ar) → (∀ p ∈ tt ++ tl, p.1 ≠ Td) → (∀ p ∈ tt ++ tl, p.1 ≠ Ot) →
    MadeInv rs els as (td ++ [rows]) ot → els[td.length]? = some e → rs[e]? = some re → re.kind = Str.ofString "element" → re.ats = [] → rs.length ≤ b + k → (∀ q ∈ o0, q ∈ tt) →
    MaI P T dT R S El Ar Td Ot Px Rw I it oEl oAr oTd oOt t0 els as td vd ot e b o0 k m ((S, srcO x y t1 t2 n) :: (Px, W.listOf vp.toArray n1) :: (Rw, W.listOf vr.toArray n2) :: (I, it) :: (El, oEl) :: (Ar, oAr) :: (Td, oTd) :: (Ot, oOt) :: (tt ++ tl))
/-- a fact kept out of the walk's sight -/
noncomputable def Hid (P : Prop) : Prop := P
noncomputable def ArOk (k : Nat) (a : Int) : Prop := a = -1 ∨ ∃ j : Nat, j < k ∧ a = (j : Int)
/-- what the first expression of a turn gives -/
inductive ArRes (g : Heap) (L' : Addr) (m : Str → Option Value) (gn : Array GenState) (dr : Drawn) (os : OsState) (S : Addr) (own : List (Addr × Obj)) (k : Nat) : Value → Shared → Prop
  | mk {a : Int} {u : Tok} {x y : Int} {t1 t2 : Tok} {n tk : Nat} {h : Heap} : ArOk k a → Fr g L' h m → News g L' h ((S, srcO x y t1 t2 n) :: own) → 0 ≤ x → 0 ≤ y →
    ArRes g L' m gn dr os S own k (.int a u) { heap := h, gens := gn, drawn := dr, toks := tk, os := os }
theorem ar_split {w : World} {A : Around} {E : Value → Shared → Prop} {Q : Value → Shared → Prop} {g h : Heap} {L' S : Addr} {m : Str → Option Value} {gn : Array GenState} {dr : Drawn} {os : OsState} {tk : Nat} {k : Nat} {t : Sem Value} (F : Fr g L' h m) (own : List (Addr × Obj))
    (h1 : wpAny (model prg w) A t (ArRes g L' m gn dr os S own k) E { heap := h, gens := gn, drawn := dr, toks := tk, os := os }) (h2 : ∀ v s', ArRes g L' m gn dr os S own k v s' → Q v s') : wpAny (model prg w) A t Q E { heap := h, gens := gn, drawn := dr, toks := tk, os := os } := wpAny_mono h1 h2 fun _ _ e => e
/-- an expression that gives a node's number -/
inductive NuRes (g : Heap) (L' : Addr) (m : Str → Option Value) (gn : Array GenState) (dr : Drawn) (os : OsState) (own : List (Addr × Obj)) (P : Nat → Prop) : Value → Shared → Prop
  | mk {j : Nat} {u : Tok} {tk : Nat} {h : Heap} : P j → Fr g L' h m → News g L' h own → NuRes g L' m gn dr os own P (.int (j : Int) u) { heap := h, gens := gn, drawn := dr, toks := tk, os := os }
theorem nu_split {w : World} {A : Around} {E : Value → Shared → Prop} {Q : Value → Shared → Prop} {g h : Heap} {L' : Addr} {m : Str → Option Value} {gn : Array GenState} {dr : Drawn} {os : OsState} {tk : Nat} {t : Sem Value} (F : Fr g L' h m) (own : List (Addr × Obj)) (P : Nat → Prop)
    (h1 : wpAny (model prg w) A t (NuRes g L' m gn dr os own P) E { heap := h, gens := gn, drawn := dr, toks := tk, os := os }) (h2 : ∀ v s', NuRes g L' m gn dr os own P v s' → Q v s') : wpAny (model prg w) A t Q E { heap := h, gens := gn, drawn := dr, toks := tk, os := os } := wpAny_mono h1 h2 fun _ _ e => e
theorem ints_range {us : List Value} {n r : Nat} {v : Value} (h : IntsAre us (rangeKs 0 n)) (e : us[r]? = some v) : ∃ (j : Nat) (u : Tok), j < n ∧ v = .int (j : Int) u := by
  have e1 : rangeKs 0 n = (List.range n).map Int.ofNat := by
    unfold rangeKs
    refine List.map_congr_left fun i _ => ?_
    show (0 : Int) + (i : Int) = Int.ofNat i
    rw [Int.zero_add]; rfl
  rw [e1] at h
  obtain ⟨j, t, h1, h2⟩ := ints_getN h e
  refine ⟨j, t, ?_, h2⟩
  have := List.mem_of_getElem? h1
  exact List.mem_range.mp this
theorem app_off {X : Addr} {tt tl tl' : List (Addr × Obj)} (h1 : ∀ q ∈ tt ++ tl, q.1 ≠ X) (h2 : ∀ q ∈ tl', q.1 ≠ X) : ∀ q ∈ tt ++ tl', q.1 ≠ X := fun q hq => (List.mem_append.mp hq).elim (fun h => h1 q (List.mem_append_left _ h)) (h2 q)
theorem with_tree {P : Params} {T dT R : Addr} {rs : List Row} {tl own : List (Addr × Obj)} {h₀ h : Heap} {L : Addr} (hT : TreeM P T dT R rs tl) (N : News h₀ L h own) (hs : ∀ q ∈ tl, q ∈ own) :
    ∃ t n, News h₀ L h ((T, instObj 312 dT) :: (dT, dictOf [de P "rows" t (.ref R)] n) :: own) := by
  obtain ⟨t, n, mD⟩ := hT.dict
  refine ⟨t, n, news_sub N fun q hq => ?_⟩
  rcases List.mem_cons.mp hq with rfl | hq
  · exact hs _ hT.inst
  rcases List.mem_cons.mp hq with rfl | hq
  · exact hs _ mD
  exact hq
theorem tree_ne {P : Params} {T dT R X : Addr} {rs : List Row} {tl tt : List (Addr × Obj)} (hT : TreeM P T dT R rs tl) (o : ∀ q ∈ tt ++ tl, q.1 ≠ X) : @Ne Nat T X ∧ @Ne Nat dT X := by
  obtain ⟨t, n, mD⟩ := hT.dict
  exact ⟨o _ (List.mem_append_right _ hT.inst), o _ (List.mem_append_right _ mD)⟩
theorem MadeInv.pe_row {rs : List Row} {els : List Nat} {as : List Int} {td : TD} {ot : List Nat} (h : MadeInv rs els as td ot) {k : Nat} {a : Int} {pe : Nat} (hp : PeOk els k a pe) : ∃ rp, rs[pe]? = some rp ∧ (rp.kind = Str.ofString "root" ∨ rp.kind = Str.ofString "element") ∧ rp.ch.length ≤ rs.length := by
  rcases hp with ⟨_, rfl⟩ | ⟨j, _, _, e⟩
  · obtain ⟨r, h1, h2, _⟩ := h.root
    exact ⟨r, h1, .inl h2, (h.low 0 r h1).2.2.1⟩
  · obtain ⟨r, a, rows, pe', rp, h1, h2, _⟩ := h.el j pe e
    exact ⟨r, h1, .inr h2, (h.low pe r h1).2.2.1⟩
/-- an expression that gives a text -/
inductive StRes (g : Heap) (L' : Addr) (m : Str → Option Value) (gn : Array GenState) (dr : Drawn) (os : OsState) (own : List (Addr × Obj)) : Value → Shared → Prop
  | mk {x : Str} {u : Tok} {tk : Nat} {h : Heap} : Fr g L' h m → News g L' h own → StRes g L' m gn dr os own (.str x u) { heap := h, gens := gn, drawn := dr, toks := tk, os := os }
theorem st_split {w : World} {A : Around} {E : Value → Shared → Prop} {Q : Value → Shared → Prop} {g h : Heap} {L' : Addr} {m : Str → Option Value} {gn : Array GenState} {dr : Drawn} {os : OsState} {tk : Nat} {t : Sem Value} (F : Fr g L' h m) (own : List (Addr × Obj))
    (h1 : wpAny (model prg w) A t (StRes g L' m gn dr os own) E { heap := h, gens := gn, drawn := dr, toks := tk, os := os }) (h2 : ∀ v s', StRes g L' m gn dr os own v s' → Q v s') : wpAny (model prg w) A t Q E { heap := h, gens := gn, drawn := dr, toks := tk, os := os } := wpAny_mono h1 h2 fun _ _ e => e
/-- two addresses that differ, kept out of omega's sight -/
noncomputable def NeA (a b : Nat) : Prop := a ≠ b
theorem NeA.l {a b : Nat} (h : NeA a b) : a ≠ b := h
theorem NeA.r {a b : Nat} (h : NeA b a) : a ≠ b := Ne.symm h
noncomputable def forBody : Stmt → List Stmt
  | .For _ _ b .. => b
  | _ => []
noncomputable def madeScope : Scope := match stmtAt 23 with
  | .FunctionDef _ _ _ _ _ _ sc .. => sc
  | _ => { kind := .function, names := [], isGenerator := false, isCoroutine := false, more := [] }
/-- the body of the inner loop of _law_made -/
noncomputable def innerBody : List Stmt := forBody ((forBody ((bodyOf (stmtAt 23)).getD 2 (.Pass ⟨0, 0, 0, 0⟩))).getD 4 (.Pass ⟨0, 0, 0, 0⟩))
noncomputable abbrev mdEnv (sc : Scope) (L : Addr) : Env := envOf (Str.ofString "_law_made") sc L 342 (.ref 341)
structure InnerT (sc : Scope) (body : List Stmt) : Prop where
  h : ∀ {w : World} {p : Program} {loose : List Str} {mean : ExcName → Option Value} {mg mb : Str → Option Value} {dp un : Nat} {fr : List Env} {gds : Option (List Code)} {base g : Heap} {L' : Addr} {E : Value → Shared → Prop} {Q : Flow → Shared → Prop}
    {T dT R S El Ar Td Ot Px Rw I I2 : Addr} {it oAr oTd oOt : Obj} {u0 ue : Tok} {vl : List Value} {nl : Nat} {els : List Nat} {as : List Int} {td : TD} {vd : List Value} {ot : List Nat} {e b r2 : Nat} {s : Shared} {o0 : List (Addr × Obj)},
    Below ⟨none, dp, some fr, gds, un⟩ base fr g → (K w.params).In g → Top p loose mean mg mb g → Rm (Around.mk none dp (some fr) gds un) 10 →
    vl[vl.length - 1]? = some (.int (e : Int) ue) → r2 < 4 → b ≤ 60 →
    (NeA S I2 ∧ NeA Px I2 ∧ NeA Rw I2 ∧ NeA I I2 ∧ NeA El I2 ∧ NeA Ar I2 ∧ NeA Td I2 ∧ NeA Ot I2) →
    (NeA S Px ∧ NeA I Px ∧ NeA El Px ∧ NeA Ar Px ∧ NeA Td Px ∧ NeA Ot Px ∧ NeA Px Rw) →
    (NeA S Rw ∧ NeA I Rw ∧ NeA El Rw ∧ NeA Ar Rw ∧ NeA Td Rw ∧ NeA Ot Rw) →
    (NeA S I ∧ NeA S El ∧ NeA S Ar ∧ NeA S Td ∧ NeA S Ot) →
    Turn prg w (Around.deeper ⟨none, dp, some fr, gds, un⟩ (mdEnv sc L')) E g (mdEnv sc L') (Str.ofString "step") body Q s I2
      (MaI w.params T dT R S El Ar Td Ot Px Rw I it (W.listOf vl.toArray nl) oAr oTd oOt u0 els as td vd ot e b o0) (fun i v => i < r2 ∧ ∃ t, v = .int (i : Int) t)
theorem inner_lit {Pr : Scope → List Stmt → Prop} {a b c d f} {st : Stmt} {r : List Stmt} (h : madeScope = Scope.mk a b c d f) (h2 : innerBody = st :: r) (hp : Pr (Scope.mk a b c d f) (st :: r)) : Pr madeScope innerBody := by rw [h, h2]; exact hp
theorem rows_t : True := by
  (k_with "call ref" => with_reducible refine stop_ref [162, 176, 183, 211, 218, 330, 337] (by decide) ?_)
  (k_with "call type:range" => refine stop_of ?_)
  (k_with "call type:list" => refine stop_of ?_)
  (k_with "eval IfExp" => refine stop_of ?_)
  (k_with "call builtin:list.pop" => refine stop_of ?_)
  (k_with "compareOp In str ref" => refine stop_of ?_)
  (k_with "compareOp NotEq ref ref" => (k_here; k_dflt (refine' ne_nil ?qN ?qa ?qb ?qi ?qu ?_; (case qN => k_asm); (case qa => k_mem); (case qb => k_mem); (case qi => k_asm); (case qu => exact Rm.units64 (k := 2) (Rm.sub (by assumption) (by decide)) (by decide)); k_whole)))
  (k_with "subscriptTail" => (k_here; (with_reducible show wpAny _ _ (subscriptTail _ _ (Value.ref _) (Value.int (-1) _)) _ _ _); k_dflt (refine' last_news ?qN ?qm ?qx ?_; (case qN => k_asm); (case qm => k_mem); (case qx => k_asm); k_whole)))
  trivial
local macro_rules | `(tactic| size_fits) => `(tactic| with_reducible assumption)
theorem rows_u : True := by
  (k_with "kne" => (refine neN ?_; (try dsimp only); first | exact NeA.l (by assumption) | exact NeA.r (by assumption)))
  trivial
section
theorem inner_turn : InnerT madeScope innerBody := by
  refine inner_lit (Pr := InnerT) rfl rfl ?_
  constructor
  intro w p loose mean mg mb dp un fr gds base g L' E Q T dT R S El Ar Td Ot Px Rw I I2 it oAr oTd oOt u0 ue vl nl els as td vd ot e b rr s o0 B1 X1 T1 hd helast hr2 hb ⟨i1, i2, i3, i4, i5, i6, i7, i8⟩ ⟨p1, p2, p3, p4, p5, p6, p7⟩ ⟨r1, r2, r3, r4, r5, r6⟩ ⟨s1, s2, s3, s4, s5⟩
  refine fill0 ?_; k_fill; intro _
  obtain ⟨hp0, gn, dr, tk0, os⟩ := s
  intro j2 v2 m2 nx2 it2 h11 tk11 hv2 hoff2 hJ2 F2 N2
  obtain ⟨hj2, tj2, rfl⟩ := hv2
  cases hJ2 with
  | mk hm2 hx7 hy7 hvp hpo hvr hrl hvd hT2 hDj2 oS oP oW oI oE oA oT oO hM2 he2 hre hkre hare hlen2 ho0 =>
  rename_i x7 y7 t9 t10 n7 n8 n9 vp vr rows rs2 re tt2 tl2
  have F3 := fr_has1 F2 hm2
  dsimp only [setL, mdEnv, envOf] at F3
  dsimp only [mdEnv, envOf] at N2
  clear F2
  have offI2 : ∀ q ∈ tt2 ++ tl2, q.1 ≠ I2 := fun q hq => hoff2 q (.tail _ (.tail _ (.tail _ (.tail _ (.tail _ (.tail _ (.tail _ (.tail _ hq))))))))
  generalize hz2 : tt2 ++ tl2 = z2 at N2 oS oP oW oI oE oA oT oO offI2
  generalize hPo2 : UnrPost _ _ _ _ _ _ _ = Po2
  dsimp only [mdEnv]
  k_steps
  unfold Stop
  (rename News g _ _ _ => N4); (rename Fr g _ _ _ => F4)
  try dsimp only at F4 N4 ⊢
  refine useTake (top := ((vp.toArray.size : Nat) : Int)) X1 T1 F4 (news_sub N4 (l' := (S, srcO x7 y7 t9 t10 n7) :: (I2, it2) :: (Px, W.listOf vp.toArray n8) :: (Rw, W.listOf vr.toArray n9) :: (I, it) :: (El, W.listOf vl.toArray nl) :: (Ar, oAr) :: (Td, oTd) :: (Ot, oOt) :: z2) (by walk_at "subT")) ?_ hx7 hy7 (Rm.sub hd (by decide)) (by rw [List.size_toArray]; omega) (by rw [List.size_toArray]; omega) _ _ ?_
  · exact List.forall_mem_cons.mpr ⟨i1.r, List.forall_mem_cons.mpr ⟨p1.r, List.forall_mem_cons.mpr ⟨r1.r, List.forall_mem_cons.mpr ⟨s1.r, List.forall_mem_cons.mpr ⟨s2.r, List.forall_mem_cons.mpr ⟨s3.r, List.forall_mem_cons.mpr ⟨s4.r, List.forall_mem_cons.mpr ⟨s5.r, oS⟩⟩⟩⟩⟩⟩⟩⟩
  clear F4 N4
  intro r3 tr3 h12 tk12 x8 y8 t11 t12 n10 F5 N5 hx8 hy8 hr3
  rw [List.size_toArray] at hr3
  have hr3' : r3 < vp.length := by omega
  k_steps
  unfold Stop
  (rename News g _ _ _ => N4); (rename Fr g _ _ _ => F4)
  try dsimp only at F4 N4 ⊢
  obtain ⟨yv, hyv⟩ : ∃ yv, vp[r3]? = some yv := ⟨_, List.getElem?_eq_getElem hr3'⟩
  obtain ⟨pre, tpre, rfl, hpre⟩ := hpo yv (List.mem_of_getElem? hyv)
  refine' kl_popAt (k := r3) (p := vp.take r3) (q := vp.drop (r3 + 1)) (y := .str pre tpre) F4 N4 ?f (by rw [List.size_toArray]; exact seqIndex_nat hr3') (kl_cut_get hyv) ?U (size_of (by show vp.length ≤ 1000; omega)) ?_
  case f => (unfold Builtin.List.listFitsIndex; rw [Bool.and_eq_true]; exact ⟨decide_eq_true (by omega), decide_eq_true (by omega)⟩)
  case U => k_upd
  clear F4 N4
  intro h13 F5 N5
  try dsimp only [List.nil_append, List.cons_append] at N5
  k_steps
  unfold Stop
  (rename News g _ _ _ => N4); (rename Fr g _ _ _ => F4)
  try dsimp only at F4 N4 ⊢
  rename_i h14
  have hNt : ∀ q ∈ tt2, h14.get? q.1 = some q.2 := fun q hq => (N4 q (.tail _ (.tail _ (.tail _ (.tail _ (.tail _ (.tail _ (.tail _ (.tail _ (.tail _ (hz2 ▸ List.mem_append_left _ hq))))))))))).1
  have hvrl : vr.length = rows.length := hvr.length
  refine ListComp_quiet (fun _ => true) (fun v y => ∃ u, y = .str (fstV h14 v) u) rfl (cl := []) (by with_unfolding_all rfl) (by decide) (by rfl) (by decide) (by rfl) ?_
  refine wpAny_Name (wpAny_loadName_local rfl rfl F4.ns (v := .ref Rw) rfl ?_)
  refine ⟨Rw, vr, rfl, ⟨_, (N4 _ (.tail _ (.tail _ (.tail _ (.head _))))).1, rfl, _, rfl⟩, by rw [sizeLine_eq]; omega, ?_, ?_, ?_⟩
  · intro C v s₃ m₃ E' _ _ _ _ _
    exact wpAny_pure ⟨rfl, _, _, rfl, fun _ _ e => e⟩
  · intro C v s₃ m₃ E' hC hv _ hns hm3 hk3
    obtain ⟨row, _, t, q1, q2, q3, c, rfl, mt⟩ := paired_mem hvr hv
    obtain ⟨g3, gg, dd, tt, oo⟩ := s₃
    obtain ⟨oC, hoC, hNs⟩ := LCg.ns_obj hns
    dsimp only at hC hns hk3 hoC ⊢
    have Fc := fr_grow F4 hk3
    have eF : fstV h14 (.ref t) = row.1 := by
      have e0 : h14.get? t = some (tupO [.str row.1 q1, .str row.2.1 q2, .int (row.2.2 : Int) q3] c) := hNt _ mt
      simp [fstV, itemsAt, e0]
    have Nc : News g L' g3 [(C, oC), (t, tupO [.str row.1 q1, .str row.2.1 q2, .int (row.2.2 : Int) q3] c)] := List.forall_mem_cons.mpr ⟨⟨hoC, Nat.ne_of_gt (Nat.lt_of_lt_of_le F4.ns.lt hC), by
        cases e : g.get? C with
        | none => rfl
        | some o => exact absurd (Nat.lt_of_lt_of_le (Heap.lt_size (F4.keep _ _ e)) hC) (Nat.lt_irrefl _)⟩, List.forall_mem_cons.mpr ⟨news_grow N4 hk3 _ (.tail _ (.tail _ (.tail _ (.tail _ (.tail _ (.tail _ (.tail _ (.tail _ (.tail _ (hz2 ▸ List.mem_append_left _ mt)))))))))), List.forall_mem_nil _⟩⟩
    rw [eF]
    clear F4 N4
    k_steps
    all_goals first | exact ⟨_, _, rfl, fun _ _ e => e⟩ | exact ⟨_, rfl⟩
  intro D h15 tk15 ys hD hpl hpair hk15
  obtain ⟨nD, hpl⟩ := hpl
  have hys : StrsAre ys.toList (rows.map fun x => x.1) := fsts_are hNt hvr (by rw [List.filter_eq_self.mpr fun _ _ => rfl] at hpair; exact hpair)
  have F5 := fr_grow F4 hk15
  have N5 : News g L' h15 ((D, W.listOf ys.toList.toArray nD) :: (S, srcO x8 y8 t11 t12 n10) :: (I2, it2) :: (Px, W.listOf (List.take r3 vp ++ List.drop (r3 + 1) vp).toArray (n8 + 1)) :: (Rw, W.listOf vr.toArray n9) :: (I, it) :: (El, W.listOf vl.toArray nl) :: (Ar, oAr) :: (Td, oTd) :: (Ot, oOt) :: z2) :=
    List.forall_mem_cons.mpr ⟨⟨hpl, (fun e => by
      obtain ⟨oL, _, _, hL, _⟩ := F4.ns
      have e' : D = L' := e
      rw [e', hL] at hD; cases hD), (by
      cases e : g.get? D with
      | none => rfl
      | some o => rw [F4.keep _ _ e] at hD; cases hD)⟩, news_grow N4 hk15⟩
  clear F4 N4 hD hk15 hpair hpl
  have hvpl2 : (List.take r3 vp ++ List.drop (r3 + 1) vp).length + 1 = vp.length := by rw [List.length_append, List.length_take, List.length_drop]; omega
  have hpo2 : ∀ v ∈ List.take r3 vp ++ List.drop (r3 + 1) vp, ∃ s u, v = .str s u ∧ PreOk s := fun v hv => (List.mem_append.mp hv).elim (fun h => hpo v (List.mem_of_mem_take h)) fun h => hpo v (List.mem_of_mem_drop h)
  k_steps
  unfold Stop
  (rename News g _ _ _ => N4); (rename Fr g _ _ _ => F4)
  refine in_list_strs ⟨_, (N4 _ (.head _)).1, rfl, _, rfl⟩ hys ?_
  have N5 := news_sub N4 (l' := (S, srcO x8 y8 t11 t12 n10) :: (I2, it2) :: (Px, W.listOf (List.take r3 vp ++ List.drop (r3 + 1) vp).toArray (n8 + 1)) :: (Rw, W.listOf vr.toArray n9) :: (I, it) :: (El, W.listOf vl.toArray nl) :: (Ar, oAr) :: (Td, oTd) :: (Ot, oOt) :: z2) fun q hq => .tail _ hq
  clear N4 hys
  by_cases hin : pre ∈ rows.map (fun x => x.1)
  · have hc : ((rows.map fun x => x.1).any (· == pre)) = true := by rw [List.any_eq_true]; exact ⟨pre, hin, beq_self_eq_true _⟩
    k_steps
    subst hPo2
    show UnrEnd _ _ _ _ _ _ _
    (rename Fr g _ _ _ => F6); (rename News g _ _ _ => N6)
    try dsimp only at F6 N6 ⊢
    subst hz2
    refine UnrEnd.intro F6 N6 ((S, srcO x8 y8 t11 t12 n10) :: (Px, W.listOf (List.take r3 vp ++ List.drop (r3 + 1) vp).toArray (n8 + 1)) :: (Rw, W.listOf vr.toArray n9) :: (I, it) :: (El, W.listOf vl.toArray nl) :: (Ar, oAr) :: (Td, oTd) :: (Ot, oOt) :: (tt2 ++ tl2)) (by walk_at "subT") (List.forall_mem_cons.mpr ⟨i1, List.forall_mem_cons.mpr ⟨i2, List.forall_mem_cons.mpr ⟨i3, List.forall_mem_cons.mpr ⟨i4, List.forall_mem_cons.mpr ⟨i5, List.forall_mem_cons.mpr ⟨i6, List.forall_mem_cons.mpr ⟨i7, List.forall_mem_cons.mpr ⟨i8, offI2⟩⟩⟩⟩⟩⟩⟩⟩) ?_
    exact .mk ⟨rfl, rfl, rfl, rfl, rfl, rfl, rfl, rfl, rfl, trivial⟩ hx8 hy8 (by omega) hpo2 hvr (by omega) hvd hT2 hDj2 oS oP oW oI oE oA oT oO hM2 he2 hre hkre hare (by omega) ho0
  have hc : ((rows.map fun x => x.1).any (· == pre)) = false := by
    cases e : ((rows.map fun x => x.1).any (· == pre)) with
    | false => rfl
    | true =>
      obtain ⟨a, ha, e2⟩ := List.any_eq_true.mp e
      exact absurd (eq_of_beq e2 ▸ ha) hin
  k_steps
  unfold Stop
  (rename Fr g _ _ _ => F6); (rename News g _ _ _ => N6)
  try dsimp only at F6 N6 ⊢
  refine st_split F6 ((S, srcO x8 y8 t11 t12 n10) :: (I2, it2) :: (Px, W.listOf (List.take r3 vp ++ List.drop (r3 + 1) vp).toArray (n8 + 1)) :: (Rw, W.listOf vr.toArray n9) :: (I, it) :: (El, W.listOf vl.toArray nl) :: (Ar, oAr) :: (Td, oTd) :: (Ot, oOt) :: z2) ?_ ?_
  · refine IfExp_ ?_
    cases hpe : (pre == Str.ofString "") with
    | true =>
      k_steps
      (rename Fr g _ _ _ => F7); (rename News g _ _ _ => N7)
      exact .mk F7 N7
    | false =>
      k_steps
      (rename Fr g _ _ _ => F7); (rename News g _ _ _ => N7)
      exact .mk F7 N7
  intro v9 s9 hv9
  clear F6 N6
  cases hv9 with
  | mk F7 N7 =>
  rename_i s9 u9 tk9 h9
  k_steps
  unfold Stop
  (rename Fr g _ _ _ => F6); (rename News g _ _ _ => N6)
  try dsimp only at F6 N6 ⊢
  rename_i D4 h16 lD4
  have hDS : ∀ q ∈ (D4, W.listOf [Value.str (Str.ofString "u") tk15, Value.str (Str.ofString "w") (tk15 + 1), Value.str s9 u9].toArray 0) :: (I2, it2) :: (Px, W.listOf (List.take r3 vp ++ List.drop (r3 + 1) vp).toArray (n8 + 1)) :: (Rw, W.listOf vr.toArray n9) :: (I, it) :: (El, W.listOf vl.toArray nl) :: (Ar, oAr) :: (Td, oTd) :: (Ot, oOt) :: z2, q.1 ≠ S :=
    List.forall_mem_cons.mpr ⟨Nat.ne_of_gt lD4.1, List.forall_mem_cons.mpr ⟨i1.r, List.forall_mem_cons.mpr ⟨p1.r, List.forall_mem_cons.mpr ⟨r1.r, List.forall_mem_cons.mpr ⟨s1.r, List.forall_mem_cons.mpr ⟨s2.r, List.forall_mem_cons.mpr ⟨s3.r, List.forall_mem_cons.mpr ⟨s4.r, List.forall_mem_cons.mpr ⟨s5.r, oS⟩⟩⟩⟩⟩⟩⟩⟩⟩
  refine useOne (vs := [Value.str (Str.ofString "u") tk15, Value.str (Str.ofString "w") (tk15 + 1), Value.str s9 u9]) (c := 0) X1 T1 F6 (news_sub N6 (l' := (S, srcO x8 y8 t11 t12 n10) :: (D4, W.listOf [Value.str (Str.ofString "u") tk15, Value.str (Str.ofString "w") (tk15 + 1), Value.str s9 u9].toArray 0) :: (I2, it2) :: (Px, W.listOf (List.take r3 vp ++ List.drop (r3 + 1) vp).toArray (n8 + 1)) :: (Rw, W.listOf vr.toArray n9) :: (I, it) :: (El, W.listOf vl.toArray nl) :: (Ar, oAr) :: (Td, oTd) :: (Ot, oOt) :: z2) (by walk_at "subT")) hDS hx8 hy8 (Rm.sub hd (by decide)) (.head _) (Nat.le_of_ble_eq_true rfl) (Nat.le_of_ble_eq_true rfl) _ _ ?_
  clear F6 N6 hDS
  intro r9 v10 h17 tk17 x9 y9 t13 t14 n11 F8 N8 hx9 hy9 hv10
  obtain ⟨uri, u10, rfl⟩ : ∃ x u, v10 = .str x u := by
    rcases List.mem_cons.mp (List.mem_of_getElem? hv10) with rfl | h
    · exact ⟨_, _, rfl⟩
    rcases List.mem_cons.mp h with rfl | h
    · exact ⟨_, _, rfl⟩
    · rw [List.mem_singleton.mp h]; exact ⟨_, _, rfl⟩
  clear hv10
  obtain ⟨tD, nD2, N9⟩ := with_tree hT2 (news_sub N8 (l' := (S, srcO x9 y9 t13 t14 n11) :: (I2, it2) :: (Px, W.listOf (List.take r3 vp ++ List.drop (r3 + 1) vp).toArray (n8 + 1)) :: (Rw, W.listOf vr.toArray n9) :: (I, it) :: (El, W.listOf vl.toArray nl) :: (Ar, oAr) :: (Td, oTd) :: (Ot, oOt) :: z2) (by walk_at "subT")) (fun q hq => .tail _ (.tail _ (.tail _ (.tail _ (.tail _ (.tail _ (.tail _ (.tail _ (.tail _ (hz2 ▸ List.mem_append_right _ hq))))))))))
  clear N8 lD4
  k_steps
  unfold Stop
  (rename Fr g _ _ _ => F6); (rename News g _ _ _ => N6)
  try dsimp only at F6 N6 ⊢
  subst hz2
  have N7 := news_sub N6 (l' := (S, srcO x9 y9 t13 t14 n11) :: (I2, it2) :: (Px, W.listOf (List.take r3 vp ++ List.drop (r3 + 1) vp).toArray (n8 + 1)) :: (Rw, W.listOf vr.toArray n9) :: (I, it) :: (El, W.listOf vl.toArray nl) :: (Ar, oAr) :: (Td, oTd) :: (Ot, oOt) :: (tt2 ++ tl2)) (by walk_at "subT")
  clear N6
  have rt : ∀ {X : Addr}, (∀ q ∈ tt2 ++ tl2, q.1 ≠ X) → ∀ q ∈ tl2, q.1 ≠ X := fun h q hq => h q (List.mem_append_right _ hq)
  have hnl : re.nss.length ≤ 900 := by have := (hM2.low e re hre).2.2.2.2; omega
  have hnm : ∀ j ∈ re.nss, ∃ q, rs2[j]? = some q ∧ q.name ≠ pre := fun j hj => by
    obtain ⟨q0, _, rows0, _, _, m1, _, _, m4, m5, _⟩ := hM2.el td.length e he2
    obtain rfl : rows = rows0 := Option.some.inj (get_end.symm.trans m4)
    obtain rfl : re = q0 := Option.some.inj (hre.symm.trans m1)
    rw [m5] at hj
    obtain ⟨x, hx, rfl⟩ := List.mem_map.mp hj
    obtain ⟨_, q, _, h4, _, _, h7, _⟩ := (hM2.tell td.length rows get_end).2 x hx
    exact ⟨q, h4, fun e => hin (List.mem_map.mpr ⟨x, hx, h7.symm.trans e⟩)⟩
  refine' add_namespace_c (own := (S, srcO x9 y9 t13 t14 n11) :: (I2, it2) :: (Px, W.listOf (List.take r3 vp ++ List.drop (r3 + 1) vp).toArray (n8 + 1)) :: (Rw, W.listOf vr.toArray n9) :: (I, it) :: (El, W.listOf vl.toArray nl) :: (Ar, oAr) :: (Td, oTd) :: (Ot, oOt) :: tt2) (tl := tl2) ?C F6 (Rm.sub hd (by decide)) (by omega) hT2 N7 ?D hre hkre hnl hnm _ _ ?_
  case C => exact Call.step B1 X1 T1
  case D => exact List.forall_mem_cons.mpr ⟨rt oS, List.forall_mem_cons.mpr ⟨rt offI2, List.forall_mem_cons.mpr ⟨rt oP, List.forall_mem_cons.mpr ⟨rt oW, List.forall_mem_cons.mpr ⟨rt oI, List.forall_mem_cons.mpr ⟨rt oE, List.forall_mem_cons.mpr ⟨rt oA, List.forall_mem_cons.mpr ⟨rt oT, List.forall_mem_cons.mpr ⟨rt oO, hDj2⟩⟩⟩⟩⟩⟩⟩⟩⟩
  clear F6 N7 rt hnm hnl
  intro a1 d1 c1 e1 f1 tl3 h18 tk18 u11 hT3 F6 N6 hD3
  have hM3 := hM2.add_ns he2 hre hpre hin (new := rowN a1 d1 c1 e1 f1 (Str.ofString "namespace") pre (Str.ofString "") pre uri (some e)) (uri := uri) rfl rfl rfl rfl ⟨rfl, rfl, rfl⟩
  have N7 : News g L' h18 ((S, srcO x9 y9 t13 t14 n11) :: (I2, it2) :: (Px, W.listOf (List.take r3 vp ++ List.drop (r3 + 1) vp).toArray (n8 + 1)) :: (Rw, W.listOf vr.toArray n9) :: (I, it) :: (El, W.listOf vl.toArray nl) :: (Ar, oAr) :: (Td, oTd) :: (Ot, oOt) :: (tt2 ++ tl3)) := N6
  have oS := app_off oS (hD3 _ (.head _))
  have offI2 := app_off offI2 (hD3 _ (.tail _ (.head _)))
  have oP := app_off oP (hD3 _ (.tail _ (.tail _ (.head _))))
  have oW := app_off oW (hD3 _ (.tail _ (.tail _ (.tail _ (.head _)))))
  have oI := app_off oI (hD3 _ (.tail _ (.tail _ (.tail _ (.tail _ (.head _))))))
  have oE := app_off oE (hD3 _ (.tail _ (.tail _ (.tail _ (.tail _ (.tail _ (.head _)))))))
  have oA := app_off oA (hD3 _ (.tail _ (.tail _ (.tail _ (.tail _ (.tail _ (.tail _ (.head _))))))))
  have oT := app_off oT (hD3 _ (.tail _ (.tail _ (.tail _ (.tail _ (.tail _ (.tail _ (.tail _ (.head _)))))))))
  have oO := app_off oO (hD3 _ (.tail _ (.tail _ (.tail _ (.tail _ (.tail _ (.tail _ (.tail _ (.tail _ (.head _))))))))))
  have hDj3 : Disj tt2 tl3 := fun q hq => hD3 q (.tail _ (.tail _ (.tail _ (.tail _ (.tail _ (.tail _ (.tail _ (.tail _ (.tail _ hq)))))))))
  clear N6 hD3
  have zvr : vr.toArray.size ≤ sizeLine := size_of (by omega)
  generalize hz3 : tt2 ++ tl3 = z3 at N7 oS oP oW oI oE oA oT oO offI2
  k_steps
  subst hPo2
  show UnrEnd _ _ _ _ _ _ _
  (rename Fr g _ _ _ => F8); (rename News g _ _ _ => N8)
  (rename (_ ∧ _ ∧ _ ∧ _ ∧ _ ∧ _ ∧ _ ∧ _ ∧ _ ∧ AllLt _ _) => lD)
  rename_i D5 _ _
  try dsimp only at F8 N8 ⊢
  obtain ⟨dS, dI2, dPx, dRw, dI, dEl, dAr, dTd, dOt, lz⟩ := lD
  rw [List.push_toArray] at N8
  subst hz3
  have off : ∀ {X : Addr}, @LT.lt Nat _ X D5 → (∀ q ∈ tt2 ++ tl3, q.1 ≠ X) → ∀ q ∈ ((D5, tupO [Value.str pre tpre, Value.str uri u10, Value.int (rs2.length : Int) u11] 0) :: tt2) ++ tl3, q.1 ≠ X := fun h1 h2 => List.forall_mem_cons.mpr ⟨Nat.ne_of_gt h1, h2⟩
  have hsub : ∀ q ∈ tt2, q ∈ (D5, tupO [Value.str pre tpre, Value.str uri u10, Value.int (rs2.length : Int) u11] 0) :: tt2 := fun q hq => .tail _ hq
  refine UnrEnd.intro F8 N8 ((S, srcO x9 y9 t13 t14 n11) :: (Px, W.listOf (List.take r3 vp ++ List.drop (r3 + 1) vp).toArray (n8 + 1)) :: (Rw, W.listOf (vr ++ [Value.ref D5]).toArray (n9 + 1)) :: (I, it) :: (El, W.listOf vl.toArray nl) :: (Ar, oAr) :: (Td, oTd) :: (Ot, oOt) :: (((D5, tupO [Value.str pre tpre, Value.str uri u10, Value.int (rs2.length : Int) u11] 0) :: tt2) ++ tl3))
    (by simp only [List.cons_append]; walk_at "subT") (List.forall_mem_cons.mpr ⟨i1, List.forall_mem_cons.mpr ⟨i2, List.forall_mem_cons.mpr ⟨i3, List.forall_mem_cons.mpr ⟨i4, List.forall_mem_cons.mpr ⟨i5, List.forall_mem_cons.mpr ⟨i6, List.forall_mem_cons.mpr ⟨i7, List.forall_mem_cons.mpr ⟨i8, off dI2 offI2⟩⟩⟩⟩⟩⟩⟩⟩) ?_
  refine .mk (rows := rows ++ [(pre, uri, rs2.length)]) ⟨rfl, rfl, rfl, rfl, rfl, rfl, rfl, rfl, rfl, trivial⟩ hx9 hy9 (by omega) hpo2 (paired_snoc (paired_mono (fun _ _ x => x.mono hsub) hvr) ⟨D5, _, _, _, _, rfl, .head _⟩) (by rw [List.length_append, List.length_singleton]; omega) (paired_mono (fun _ _ x => x.mono hsub) hvd) hT3
    (List.forall_mem_cons.mpr ⟨fun q hq => Nat.ne_of_lt (allLt_mem lz q (List.mem_append_right _ hq)), hDj3⟩) (off dS oS) (off dPx oP) (off dRw oW) (off dI oI) (off dEl oE) (off dAr oA) (off dTd oT) (off dOt oO) hM3 he2 (grown_at hre) hkre hare (by rw [grown_len]; omega) (fun q hq => hsub q (ho0 q hq))
end
theorem news_new {h₀ h h' : Heap} {L a : Addr} {m : Str → Option Value} {news : List (Addr × Obj)} {o : Obj} (F : Fr h₀ L h m) (N : News h₀ L h news) (ho : h'.get? a = some o) (hn : h.get? a = none) : (∀ p ∈ news, p.1 ≠ a) ∧ h'.get? a = some o ∧ a ≠ L ∧ h₀.get? a = none := by
  refine ⟨fun p hp e => ?_, ho, fun e => ?_, ?_⟩
  · have := (N p hp).1; rw [e, hn] at this; cases this
  · obtain ⟨oL, _, _, hL, _⟩ := F.ns
    rw [e, hL] at hn; cases hn
  · cases q : h₀.get? a with
    | none => rfl
    | some o => rw [F.keep _ _ q] at hn; cases hn
theorem useDict0 {w : World} {A : Around} {E : Value → Shared → Prop} {s : Shared} {h₀ : Heap} {L : Addr} {m : Str → Option Value} {news : List (Addr × Obj)} {t : Sem Value} {D : DD} {Q : Value → Shared → Prop} (F : Fr h₀ L s.heap m) (N : News h₀ L s.heap news)
    (c : RO w A s t fun v h' => NewDict w s.heap h' v D)
    (h : ∀ d o h' tk', DictS w o D → (d == sysModules) = false → (∀ p ∈ news, p.1 ≠ d) → Fr h₀ L h' m → News h₀ L h' ((d, o) :: news) → Q (.ref d) { s with heap := h', toks := tk' }) : wpAny (model prg w) A t Q E s :=
  c Q E fun v h' tk' k hz => by
    obtain ⟨d, o, e, ho, hD, lo, hn⟩ := hz
    subst e
    obtain ⟨a1, a2⟩ := news_new F N ho hn
    exact h d o h' tk' hD lo a1 (fr_grow F k) (List.forall_mem_cons.mpr ⟨a2, news_grow N k⟩)
theorem useDict {hpS : Heap} {gnS : Array GenState} {drS : Drawn} {tkS : Nat} {osS : OsState} {w : World} {A : Around} {E : Value → Shared → Prop} {h₀ : Heap} {L : Addr} {m : Str → Option Value} {news : List (Addr × Obj)} {t : Sem Value} {D : DD} {Q : Value → Shared → Prop} (F : Fr h₀ L hpS m) (N : News h₀ L hpS news)
    (c : RO w A (Shared.mk hpS gnS drS tkS osS) t fun v h' => NewDict w hpS h' v D)
    (h : ∀ d o h' tk', DictS w o D → (d == sysModules) = false → (∀ p ∈ news, p.1 ≠ d) → Fr h₀ L h' m → News h₀ L h' ((d, o) :: news) → Q (.ref d) (Shared.mk h' gnS drS tk' osS)) : wpAny (model prg w) A t Q E (Shared.mk hpS gnS drS tkS osS) :=
  useDict0 (s := (Shared.mk hpS gnS drS tkS osS)) F N c h
theorem useDue0 {w : World} {A : Around} {E : Value → Shared → Prop} {s : Shared} {h₀ : Heap} {L : Addr} {m : Str → Option Value} {news : List (Addr × Obj)} {t : Sem Value} {r : List Nat × DD} {Q : Value → Shared → Prop} (F : Fr h₀ L s.heap m) (N : News h₀ L s.heap news)
    (c : RO w A s t fun v h' => NewDue w s.heap h' v r)
    (h : ∀ tt l d n n2 vs o h' tk', IntsAre vs (r.1.map Int.ofNat) → DictS w o r.2 → (d == sysModules) = false → (∀ p ∈ news, p.1 ≠ tt) → (∀ p ∈ news, p.1 ≠ l) → (∀ p ∈ news, p.1 ≠ d) → Fr h₀ L h' m → News h₀ L h' ((tt, tupO [.ref l, .ref d] n) :: (l, W.listOf vs.toArray n2) :: (d, o) :: news) → Q (.ref tt) { s with heap := h', toks := tk' }) : wpAny (model prg w) A t Q E s :=
  c Q E fun v h' tk' k hz => by
    obtain ⟨tt, l, d, n, o, e, ht, ⟨vs, ⟨n2, hl⟩, hi⟩, ho, hD, lo, hn1, hn2, hn3⟩ := hz
    subst e
    obtain ⟨a1, a2⟩ := news_new F N ht hn1
    obtain ⟨b1, b2⟩ := news_new F N hl hn2
    obtain ⟨c1, c2⟩ := news_new F N ho hn3
    exact h tt l d n n2 vs o h' tk' hi hD lo a1 b1 c1 (fr_grow F k) (List.forall_mem_cons.mpr ⟨a2, List.forall_mem_cons.mpr ⟨b2, List.forall_mem_cons.mpr ⟨c2, news_grow N k⟩⟩⟩)
theorem useDue {hpS : Heap} {gnS : Array GenState} {drS : Drawn} {tkS : Nat} {osS : OsState} {w : World} {A : Around} {E : Value → Shared → Prop} {h₀ : Heap} {L : Addr} {m : Str → Option Value} {news : List (Addr × Obj)} {t : Sem Value} {r : List Nat × DD} {Q : Value → Shared → Prop} (F : Fr h₀ L hpS m) (N : News h₀ L hpS news)
    (c : RO w A (Shared.mk hpS gnS drS tkS osS) t fun v h' => NewDue w hpS h' v r)
    (h : ∀ tt l d n n2 vs o h' tk', IntsAre vs (r.1.map Int.ofNat) → DictS w o r.2 → (d == sysModules) = false → (∀ p ∈ news, p.1 ≠ tt) → (∀ p ∈ news, p.1 ≠ l) → (∀ p ∈ news, p.1 ≠ d) → Fr h₀ L h' m → News h₀ L h' ((tt, tupO [.ref l, .ref d] n) :: (l, W.listOf vs.toArray n2) :: (d, o) :: news) → Q (.ref tt) (Shared.mk h' gnS drS tk' osS)) : wpAny (model prg w) A t Q E (Shared.mk hpS gnS drS tkS osS) :=
  useDue0 (s := (Shared.mk hpS gnS drS tkS osS)) F N c h
theorem tree_start {P : Params} {T dT R : Addr} {t : Tok} {n c : Nat} : TreeM P T dT R [] [(R, W.listOf #[] c), (T, instObj 312 dT), (dT, dictOf [de P "rows" t (.ref R)] n)] :=
  ⟨.tail _ (.head _), ⟨t, n, .tail _ (.tail _ (.head _))⟩, ⟨c, .head _⟩, fun i r h => by simp at h, fun i j r q k l h => by simp at h, fun i r k h => by simp at h⟩
theorem kp_hideH {h₀ h : Heap} {L : Addr} {m : Str → Option Value} {own : List (Addr × Obj)} {as : List Addr} (F : Fr h₀ L h m) (N : News h₀ L h own) (hh : ∀ a ∈ as, ∃ o, (a, o) ∈ own) : Kp h₀ (hideAll h as) := fun b o e => hideAll_get _ (F.keep _ _ e) fun hm => by
  obtain ⟨o', ho'⟩ := hh b hm
  rw [(N _ ho').2.2] at e; cases e
theorem back_frameH {h₀ h h' : Heap} {L S : Addr} {m : Str → Option Value} {own : List (Addr × Obj)} {o o' : Obj} (F : Fr h₀ L h m) (N : News h₀ L h ((S, o) :: own)) (hoff : ∀ q ∈ own, q.1 ≠ S) (k : ∀ b o, b ≠ S → h.get? b = some o → h'.get? b = some o) (hS : h'.get? S = some o') :
    Fr h₀ L h' m ∧ News h₀ L h' ((S, o') :: own) := by
  have hSn := (N _ (.head _)).2
  obtain ⟨oL, es, ep, hL, r⟩ := F.ns
  refine ⟨⟨⟨oL, es, ep, k _ _ (Ne.symm hSn.1) hL, r⟩, fun b o e => k _ _ (fun q => ?_) (F.keep b o e), F.above⟩, fun q hq => ?_⟩
  · rw [q, hSn.2] at e; cases e
  · rcases List.mem_cons.mp hq with rfl | hq
    · exact ⟨hS, hSn⟩
    · have := N q (.tail _ hq)
      exact ⟨k _ _ (hoff q hq) this.1, this.2⟩
theorem ite10_nonneg (c : Prop) [Decidable c] : (0 : Int) ≤ if c then 1 else 0 := by split <;> decide
theorem rows_v : True := by
  (k_with "kinst" => (refine' InstAt.of_news ?qN ?qh1 ?qh2; (case qN => k_asm); (case qh1 => k_mem); (case qh2 => k_mem)))
  trivial
section
variable {w : World} {p : Program} {loose : List Str} {mean : ExcName → Option Value} {mg mb : Str → Option Value} {A : Around} {s : Shared}
theorem pool_c (B : Bs w p loose mean mg mb s.heap) (hd : Rm A 1) {la : Addr} {va : List Value} {as : List Int} (hl : LstAt s.heap la va) (hi : IntsAre va as) (hz : as.length ≤ 63) {t0 : Tok} :
    RO w A s (call (.ref 323) [.ref la, .int 0 t0]) fun v h' => ∃ l x y t1 t2 n, v = .ref l ∧ h'.get? l = some (srcO x y t1 t2 n) ∧ 0 ≤ x ∧ 0 ≤ y ∧ s.heap.get? l = none := by
  refine fill0 ?_; k_fill; intro _
  obtain ⟨hp0, gn, dr, tk0, os⟩ := s
  dsimp only at B hl
  intro Q E ret
  dsimp only at ret
  obtain ⟨hA, dp, frs, gds, un⟩ := A; obtain rfl : hA = none := hd.handled
  refine enter B (st := stmtAt 20) (f := 323) (binds := [(Str.ofString "script", .ref la), (Str.ofString "k", .int 0 t0)]) (by k_is) rfl (by k_is) hd.room (by rfl) (by rfl) ?_
  have X := B.X
  have T' := B.T
  intro h₁ tk F
  dsimp only at F ⊢
  have N : News hp0 hp0.objs.size h₁ [] := News.nil
  have hvl : va.length = as.length := hi.length
  cases hi with
  | nil =>
    k_steps
    (rename Fr _ _ _ _ => F9); (rename News _ _ _ _ => N9)
    refine ret _ _ _ F9.keep ⟨_, _, _, _, _, _, rfl, (N9 _ (.head _)).1, Int.mul_nonneg (by split <;> omega) (ite10_nonneg _), Int.fmod_nonneg_of_pos _ (by decide), (N9 _ (.head _)).2.2⟩
  | cons x t hr =>
    rename_i vs ns
    have c1 : decide ((0 : Int) < (((Value.int x t :: vs).length : Nat) : Int)) = true := decide_eq_true (by rw [List.length_cons]; omega)
    have hx : (Value.int x t :: vs)[(0 : Int).toNat]? = some (.int x t) := rfl
    k_steps
    (rename Fr _ _ _ _ => F9); (rename News _ _ _ _ => N9)
    refine ret _ _ _ F9.keep ⟨_, _, _, _, _, _, rfl, (N9 _ (.head _)).1, Int.mul_nonneg (by split <;> omega) (ite10_nonneg _), Int.fmod_nonneg_of_pos _ (by decide), (N9 _ (.head _)).2.2⟩
end
theorem valueAt_mem {kvs : List (Str × Value)} (hn : (kvs.map (·.1)).Nodup) {k : Str} {v : Value} (h : (k, v) ∈ kvs) : valueAt kvs k = some v := by
  induction kvs with
  | nil => cases h
  | cons a r ih =>
    obtain ⟨h1, h2⟩ := List.nodup_cons.mp (show (a.1 :: r.map (·.1)).Nodup from hn)
    unfold valueAt
    rcases List.mem_cons.mp h with rfl | h
    · simp
    · have hne : a.1 ≠ k := fun e => h1 (List.mem_map.mpr ⟨(k, v), h, e.symm⟩)
      rw [List.find?_cons, decide_eq_false hne]
      exact ih h2 h
theorem valueAt_key {kvs : List (Str × Value)} {k : Str} {v : Value} (h : valueAt kvs k = some v) : k ∈ kvs.map (·.1) := by
  unfold valueAt at h
  cases e : kvs.find? (fun kv => decide (kv.1 = k)) with
  | none => rw [e] at h; cases h
  | some x =>
    have h1 := List.mem_of_find?_eq_some e
    have h2 : x.1 = k := by simpa using List.find?_some e
    exact List.mem_map.mpr ⟨x, h1, h2⟩
/-- the same pairs, in whatever order; texts under texts -/
structure SameD (D1 D2 : DD) : Prop where
  eq : ∀ p : Str, PySem.Spec.lookup (.str p) D1 = PySem.Spec.lookup (.str p) D2
  str : ∀ (p : Str) d, PySem.Spec.lookup (.str p) D1 = some d → ∃ x, d = .str x
theorem nodup_le {l1 l2 : List Str} (h1 : l1.Nodup) (h : ∀ x ∈ l1, x ∈ l2) : l1.length ≤ l2.length := nodup_len h1 h
theorem hits_all {A : Around} {s : Shared} {kb : List (Str × Value)} : ∀ {ka : List (Str × Value)}, (∀ k v, (k, v) ∈ ka → ∃ y x t u, valueAt kb k = some y ∧ v = .str x t ∧ y = .str x u) → KeqHits A s kb ka true
  | [], _ => .nil
  | (k, v) :: r, h => by
    obtain ⟨y, x, t, u, h1, rfl, rfl⟩ := h k v (.head _)
    have := KeqHits.hit (A := A) (s := s) (v := .str x t) h1 (SeqAt.EqAt.str_str x t x u) (hits_all (ka := r) fun k v hm => h k v (.tail _ hm))
    rwa [beq_self_eq_true, Bool.and_self] at this
theorem dict_same {w : World} {A : Around} {E : Value → Shared → Prop} {s : Shared} {a b : Addr} {o1 o2 : Obj} {D1 D2 : DD} {Q : Value → Shared → Prop} (ha : (a == sysModules) = false) (hb : (b == sysModules) = false)
    (h1 : s.heap.get? a = some o1) (h2 : s.heap.get? b = some o2) (d1 : DictS w o1 D1) (d2 : DictS w o2 D2) (hs : SameD D1 D2) (hu : A.units < cLine) (h : Q (.bool false) s) : wpAny (model prg w) A (compareOp .NotEq (.ref a) (.ref b)) Q E s := by
  obtain ⟨k1, i1, f1⟩ := d1.ex
  obtain ⟨k2, i2, f2⟩ := d2.ex
  have n1 : (k1.map (·.1)).Nodup := by obtain ⟨_, _, _, _, _, _, n⟩ := i1; exact n
  have n2 : (k2.map (·.1)).Nodup := by obtain ⟨_, _, _, _, _, _, n⟩ := i2; exact n
  have key : ∀ k v, (k, v) ∈ k1 → ∃ y x t u, valueAt k2 k = some y ∧ v = .str x t ∧ y = .str x u := fun k v hm => by
    obtain ⟨d, hd, hf⟩ := f1.there PyProof.V.same_str (valueAt_mem n1 hm)
    obtain ⟨x, rfl⟩ := hs.str k d hd
    obtain ⟨t, rfl⟩ := hf.str_inv
    obtain ⟨y, hy, hf2⟩ := f2.of_lookup PyProof.V.same_str (k := k) (d := .str x) (by rw [← hs.eq]; exact hd)
    obtain ⟨u, rfl⟩ := hf2.str_inv
    exact ⟨_, x, t, u, hy, rfl, rfl⟩
  have le1 : (k1.map (·.1)).length ≤ (k2.map (·.1)).length := nodup_le n1 fun x hx => by
    obtain ⟨⟨k, v⟩, hm, rfl⟩ := List.mem_map.mp hx
    obtain ⟨y, _, _, _, hy, _⟩ := key k v hm
    exact valueAt_key hy
  have le2 : (k2.map (·.1)).length ≤ (k1.map (·.1)).length := nodup_le n2 fun x hx => by
    obtain ⟨⟨k, v⟩, hm, rfl⟩ := List.mem_map.mp hx
    obtain ⟨d, hd, hf⟩ := f2.there PyProof.V.same_str (valueAt_mem n2 hm)
    obtain ⟨y, hy, _⟩ := f1.of_lookup PyProof.V.same_str (k := k) (d := d) (by rw [hs.eq]; exact hd)
    exact valueAt_key hy
  have hlen : k1.length = k2.length := by
    rw [List.length_map, List.length_map] at le1 le2
    omega
  refine keq_ne (knd := PySem.strKind prg w) ha hb (Heap.dictOf_iff.mpr ⟨o1, h1, i1⟩) (Heap.dictOf_iff.mpr ⟨o2, h2, i2⟩) hu (fun _ => hits_all key) ?_
  rw [hlen, beq_self_eq_true]
  exact h
theorem lookup_nil (k : PyData) : PySem.Spec.lookup k [] = none := rfl
theorem lookup_cons_str (p k : Str) (v : PyData) (D : DD) : PySem.Spec.lookup (.str p) ((.str k, v) :: D) = if k = p then some v else PySem.Spec.lookup (.str p) D := by
  show (if PySem.Spec.same (.str k) (.str p) then some v else PySem.Spec.lookup (.str p) D) = _
  rw [PyProof.V.same_str]
  by_cases h : k = p
  · simp [h]
  · simp [h]
theorem lookup_del (k n : Str) : ∀ (D : DD), (∀ q ∈ D, ∃ x, q.1 = .str x) → PySem.Spec.lookup (.str k) (PyProof.V.delD (.str n) D) = if k = n then none else PySem.Spec.lookup (.str k) D
  | [], _ => by simp [PyProof.V.delD, lookup_nil]
  | (q, v) :: D, h => by
    obtain ⟨x, hx⟩ := h (q, v) (.head _)
    obtain rfl : q = .str x := hx
    have ih := lookup_del k n D fun q hq => h q (.tail _ hq)
    unfold PyProof.V.delD at ih ⊢
    rw [List.filter_cons, PyProof.V.same_str, lookup_cons_str]
    by_cases hxn : x = n
    · subst hxn
      simp only [decide_true, Bool.not_true, Bool.false_eq_true, if_false]
      rw [ih]
      by_cases hk : k = x
      · simp [hk]
      · rw [if_neg hk, if_neg hk, if_neg fun e => hk e.symm]
    · simp only [decide_eq_false hxn, Bool.not_false, if_true]
      rw [lookup_cons_str, ih]
      by_cases hk : k = n
      · subst hk; rw [if_pos rfl, if_neg hxn, if_pos rfl]
      · rw [if_neg hk, if_neg hk]
theorem keys_put {n : Str} {dv : PyData} {D : DD} (h : ∀ q ∈ D, ∃ x, q.1 = .str x) : ∀ q ∈ PyProof.V.putD (.str n) dv D, ∃ x, q.1 = .str x := fun q hq => by
  unfold PyProof.V.putD at hq
  split at hq
  · obtain ⟨z, hz, rfl⟩ := List.mem_map.mp hq
    split
    · exact h z hz
    · exact h z hz
  · rcases List.mem_append.mp hq with hq | hq
    · exact h q hq
    · rw [List.mem_singleton.mp hq]; exact ⟨n, rfl⟩
theorem keys_del {n : PyData} {D : DD} (h : ∀ q ∈ D, ∃ x, q.1 = .str x) : ∀ q ∈ PyProof.V.delD n D, ∃ x, q.1 = .str x := fun q hq => h q (List.mem_filter.mp hq).1
noncomputable abbrev StrK (D : DD) : Prop := ∀ q ∈ D, ∃ x, q.1 = .str x
theorem scS_look {rs : List Row} {D : DD} (hD : StrK D) (t : Nat) (p : Str) : StrK (scS rs D t) ∧ PySem.Spec.lookup (.str p) (scS rs D t) = if p = nmOf rs t then (if vlOf rs t = Str.ofString "" then none else some (.str (vlOf rs t))) else PySem.Spec.lookup (.str p) D := by
  unfold scS
  by_cases hv : vlOf rs t = Str.ofString ""
  · rw [if_pos hv]
    split
    · refine ⟨keys_del hD, ?_⟩
      rw [lookup_del _ _ D hD]
    · rename_i hs
      refine ⟨hD, ?_⟩
      by_cases hp : p = nmOf rs t
      · subst hp
        rw [if_pos rfl]
        cases e : PySem.Spec.lookup (.str (nmOf rs t)) D with
        | none => rfl
        | some d => rw [e] at hs; exact absurd rfl hs
      · rw [if_neg hp]
  · rw [if_neg hv]
    refine ⟨keys_put hD, ?_⟩
    rw [PyProof.Rows.lookup_putD_str, if_neg hv]
theorem scN_look {rs : List Row} {p : Str} : ∀ {rows : List ToldR} {D : DD}, (∀ x ∈ rows, nmOf rs x.2.2 = x.1 ∧ vlOf rs x.2.2 = x.2.1) → (rows.map (·.1)).Nodup → StrK D →
    StrK (scN rs (rows.map (·.2.2)) D) ∧ PySem.Spec.lookup (.str p) (scN rs (rows.map (·.2.2)) D) = match rows.find? (fun x => x.1 == p) with
      | some x => if x.2.1 = Str.ofString "" then none else some (.str x.2.1)
      | none => PySem.Spec.lookup (.str p) D
  | [], D, _, _, hD => ⟨hD, rfl⟩
  | x :: r, D, h, hn, hD => by
    obtain ⟨h1, h2⟩ := List.nodup_cons.mp (show (x.1 :: r.map (·.1)).Nodup from hn)
    obtain ⟨e1, e2⟩ := h x (.head _)
    obtain ⟨a, b⟩ := scS_look (rs := rs) hD x.2.2 p
    obtain ⟨c, d⟩ := scN_look (rs := rs) (p := p) (rows := r) (D := scS rs D x.2.2) (fun y hy => h y (.tail _ hy)) h2 a
    refine ⟨c, ?_⟩
    show PySem.Spec.lookup (.str p) (scN rs (r.map (·.2.2)) (scS rs D x.2.2)) = _
    rw [d, b, e1, e2, List.find?_cons]
    by_cases hp : x.1 = p
    · subst hp
      have hf : r.find? (fun y => y.1 == x.1) = none := by
        rw [List.find?_eq_none]
        intro y hy e
        exact h1 (List.mem_map.mpr ⟨y, hy, eq_of_beq e⟩)
      rw [hf]; simp
    · have hp' : ¬ p = x.1 := fun e => hp e.symm
      have hb : (x.1 == p) = false := beq_eq_false_iff_ne.mpr hp
      simp [hp', hb]
theorem lexLt_app : ∀ (c x y : List Int), lexLt (c ++ x) (c ++ y) = lexLt x y
  | [], _, _ => rfl
  | a :: c, x, y => by
    show (if a = a then lexLt (c ++ x) (c ++ y) else decide (a < a)) = _
    rw [if_pos rfl]; exact lexLt_app c x y
theorem lexLt_irr : ∀ x : List Int, lexLt x x = false
  | [] => rfl
  | a :: r => by
    show (if a = a then lexLt r r else decide (a < a)) = false
    rw [if_pos rfl]; exact lexLt_irr r
theorem lexLt_asym : ∀ {x y : List Int}, lexLt x y = true → lexLt y x = false
  | [], [], _ => rfl
  | [], _ :: _, _ => rfl
  | _ :: _, [], h => by cases h
  | a :: x, b :: y, h => by
    have h' : (if a = b then lexLt x y else decide (a < b)) = true := h
    show (if b = a then lexLt y x else decide (b < a)) = false
    by_cases e : a = b
    · rw [if_pos e] at h'; rw [if_pos e.symm]; exact lexLt_asym h'
    · rw [if_neg e] at h'; rw [if_neg fun q => e q.symm]
      have := of_decide_eq_true h'
      exact decide_eq_false (by omega)
theorem idxOf_get : ∀ {l : List Nat} {b x : Nat}, l.Nodup → l[b]? = some x → l.idxOf x = b
  | [], _, _, _, h => by simp at h
  | a :: r, 0, x, _, h => by
    obtain rfl : a = x := Option.some.inj h
    rw [List.idxOf_cons]; simp
  | a :: r, b + 1, x, hn, h => by
    obtain ⟨h1, h2⟩ := List.nodup_cons.mp hn
    have h' : r[b]? = some x := by simpa using h
    have hne : (a == x) = false := beq_eq_false_iff_ne.mpr fun e => h1 (e ▸ List.mem_of_getElem? h')
    rw [List.idxOf_cons, hne, idxOf_get h2 h']; rfl
theorem PlaceTail.snoc {rs : List Row} {a : Nat} {l : List Nat} {ps : List Int} (h : PlaceTail rs a l ps) : ∀ {c b : Nat} {x y : Int}, (a :: l).getLast? = some c → Among rs c b x y → PlaceTail rs a (l ++ [b]) (ps ++ [x, y]) := by
  induction h with
  | nil =>
    intro c b x y hc ha
    obtain rfl : _ = c := Option.some.inj hc
    exact .cons ha .nil
  | cons ha _ ih =>
    intro c b x y hc ha2
    exact .cons ha (ih (by rw [List.getLast?_cons_cons] at hc; exact hc) ha2)
noncomputable abbrev elAt (els : List Nat) (j : Nat) : Nat := els.getD j 0
theorem el_get {els : List Nat} {j : Nat} (h : j < els.length) : els[j]? = some (elAt els j) := by
  rw [List.getElem?_eq_getElem h, elAt, List.getD_eq_getElem?_getD, List.getElem?_eq_getElem h]; rfl
theorem td_get {td : TD} {j : Nat} {rows : List ToldR} (h : td[j]? = some rows) : tdAt td j = rows := by rw [tdAt, h]; rfl
section
variable {rs : List Row} {els : List Nat} {as : List Int} {td : TD} {ot : List Nat}
theorem MadeInv.at_el (hM : MadeInv rs els as td ot) {j : Nat} (hj : j < els.length) : ∃ r a pe rp, rs[elAt els j]? = some r ∧ r.kind = Str.ofString "element" ∧ as[j]? = some a ∧ r.nss = (tdAt td j).map (fun x => x.2.2) ∧ r.par = some pe ∧ PeOk els j a pe ∧ rs[pe]? = some rp ∧ elAt els j ∈ rp.ch := by
  obtain ⟨r, a, rows, pe, rp, h1, h2, h3, h4, h5, h6, h7, h8, h9⟩ := hM.el j _ (el_get hj)
  exact ⟨r, a, pe, rp, h1, h2, h3, by rw [td_get h4]; exact h5, h6, h7, h8, h9⟩
theorem MadeInv.at_td (hM : MadeInv rs els as td ot) (j : Nat) : ((tdAt td j).map (·.1)).Nodup ∧ ∀ x ∈ tdAt td j, PreOk x.1 ∧ (∃ q, rs[x.2.2]? = some q ∧ q.kind = Str.ofString "namespace" ∧ q.name = x.1 ∧ q.value = x.2.1 ∧ q.par = some (elAt els j)) ∧ nmOf rs x.2.2 = x.1 ∧ vlOf rs x.2.2 = x.2.1 := by
  cases h : td[j]? with
  | none =>
    have : tdAt td j = [] := by rw [tdAt, h]; rfl
    rw [this]
    exact ⟨List.nodup_nil, fun x hx => nomatch hx⟩
  | some rows =>
    rw [td_get h]
    obtain ⟨h1, h2⟩ := hM.tell j rows h
    refine ⟨h1, fun x hx => ?_⟩
    obtain ⟨h3, q, e, h4, h5, h6, h7, h8, h9⟩ := h2 x hx
    obtain rfl : elAt els j = e := by
      have := (List.getElem?_eq_some_iff.mp h5).1
      exact Option.some.inj ((el_get this).symm.trans h5)
    refine ⟨h3, ⟨q, h4, h6, h7, h8, h9⟩, ?_, ?_⟩
    · rw [nmOf, h4]; exact h7
    · rw [vlOf, h4]; exact h8
theorem MadeInv.at_root (hM : MadeInv rs els as td ot) : nsOf rs 0 = [] ∧ nssR rs 0 = [] ∧ Up rs 0 [] := by
  obtain ⟨r, h1, h2, h3, h4⟩ := hM.root
  refine ⟨?_, by rw [nssR, h1]; exact h4, .top h1 h3⟩
  unfold nsOf
  split
  · rw [h1]; exact h4
  · rfl
theorem MadeInv.nsOf_el (hM : MadeInv rs els as td ot) {j : Nat} (hj : j < els.length) : nsOf rs (elAt els j) = (tdAt td j).map (fun x => x.2.2) ∧ nssR rs (elAt els j) = (tdAt td j).map (fun x => x.2.2) := by
  obtain ⟨r, _, _, _, h1, h2, _, h4, _⟩ := hM.at_el hj
  refine ⟨?_, by rw [nssR, h1]; exact h4⟩
  unfold nsOf kdOf
  rw [h1]
  show (if r.kind = Str.ofString "element" then r.nss else []) = _
  rw [if_pos h2, h4]
theorem MadeInv.lots (hM : MadeInv rs els as td ot) : ∀ {l : List Nat} {met : List Str}, (∀ j ∈ l, j < els.length) → lotsOf rs (l.map (elAt els) ++ [0]) met = lotsR td l met ++ [[]]
  | [], met, _ => by
    show (lotOf rs (nsOf rs 0) met).1 :: lotsOf rs [] _ = [[]]
    rw [hM.at_root.1]; rfl
  | j :: l, met, h => by
    have ih := fun met => hM.lots (l := l) (met := met) fun i hi => h i (.tail _ hi)
    show (lotOf rs (nsOf rs (elAt els j)) met).1 :: lotsOf rs (l.map (elAt els) ++ [0]) (lotOf rs (nsOf rs (elAt els j)) met).2 = ((lotR (tdAt td j) met).1 :: lotsR td l (lotR (tdAt td j) met).2) ++ [[]]
    rw [(hM.nsOf_el (h j (.head _))).1, lotOf_rows (rows := tdAt td j) (met := met) fun x hx => ((hM.at_td j).2 x hx).2.2, ih]; rfl
theorem MadeInv.nis (hM : MadeInv rs els as td ot) {l : List Nat} (h : ∀ j ∈ l, j < els.length) : nisOf rs (l.map (elAt els) ++ [0]) = (lotsR td l []).reverse.flatten := by
  rw [nisOf, hM.lots h, List.reverse_append, List.flatten_append]; rfl
theorem MadeInv.sc (hM : MadeInv rs els as td ot) (p : Str) : ∀ {l : List Nat} {D : DD}, (∀ j ∈ l, j < els.length) → StrK D → StrK (scL rs (l.map (elAt els)).reverse D) ∧
    PySem.Spec.lookup (.str p) (scL rs (l.map (elAt els)).reverse D) = match nearR td l p with
      | some u => if u = Str.ofString "" then none else some (.str u)
      | none => PySem.Spec.lookup (.str p) D
  | [], D, _, hD => ⟨hD, rfl⟩
  | j :: l, D, h, hD => by
    obtain ⟨a, b⟩ := hM.sc p (l := l) (D := D) (fun i hi => h i (.tail _ hi)) hD
    obtain ⟨c, d⟩ := scN_look (rs := rs) (p := p) (rows := tdAt td j) (fun x hx => ((hM.at_td j).2 x hx).2.2) (hM.at_td j).1 a
    have e : scL rs ((j :: l).map (elAt els)).reverse D = scN rs ((tdAt td j).map (fun x => x.2.2)) (scL rs (l.map (elAt els)).reverse D) := by
      rw [List.map_cons, List.reverse_cons, scL, List.foldl_append]
      show scN rs (nssR rs (elAt els j)) _ = _
      rw [(hM.nsOf_el (h j (.head _))).2]; rfl
    rw [e]
    refine ⟨c, ?_⟩
    rw [d, b]
    have en : nearR td (j :: l) p = (match (tdAt td j).find? (fun x => x.1 == p) with | some x => some x.2.1 | none => nearR td l p) := rfl
    rw [en]
    cases (tdAt td j).find? (fun x => x.1 == p) with
    | some x => rfl
    | none => rfl
theorem nearR_some {td : TD} {p u : Str} : ∀ {l : List Nat}, nearR td l p = some u → ∃ j ∈ l, ∃ x ∈ tdAt td j, x.1 = p
  | [], h => by cases h
  | j :: l, h => by
    have en : nearR td (j :: l) p = (match (tdAt td j).find? (fun x => x.1 == p) with | some x => some x.2.1 | none => nearR td l p) := rfl
    rw [en] at h
    cases e : (tdAt td j).find? (fun x => x.1 == p) with
    | some x => exact ⟨j, .head _, x, List.mem_of_find?_eq_some e, by simpa using List.find?_some e⟩
    | none =>
      rw [e] at h
      obtain ⟨i, hi, x⟩ := nearR_some (l := l) h
      exact ⟨i, .tail _ hi, x⟩
theorem look_xml {p : Str} (h : PreOk p) : PySem.Spec.lookup (.str p) xmlD = none := by
  unfold xmlD
  rw [lookup_cons_str, if_neg]
  · rfl
  · rcases h with rfl | rfl | rfl <;> decide +kernel
theorem strK_xml : StrK xmlD := fun q hq => by
  rw [List.mem_singleton.mp hq]; exact ⟨_, rfl⟩
theorem MadeInv.same (hM : MadeInv rs els as td ot) {l : List Nat} (h : ∀ j ∈ l, j < els.length) {D : DD} (hD : ∀ p, PySem.Spec.lookup (.str p) D = match nearR td l p with
      | some u => if u = Str.ofString "" then PySem.Spec.lookup (.str p) xmlD else some (.str u)
      | none => PySem.Spec.lookup (.str p) xmlD) : SameD (scL rs (l.map (elAt els) ++ [0]).reverse xmlD) D := by
  have e0 : scL rs (l.map (elAt els) ++ [0]).reverse xmlD = scL rs (l.map (elAt els)).reverse xmlD := by
    rw [List.reverse_append]
    show scL rs (l.map (elAt els)).reverse (scN rs (nssR rs 0) xmlD) = _
    rw [hM.at_root.2.1]; rfl
  rw [e0]
  have hx : ∀ (p : Str) d, PySem.Spec.lookup (.str p) xmlD = some d → ∃ x, d = .str x := fun p d hd => by
    unfold xmlD at hd
    rw [lookup_cons_str] at hd
    split at hd
    · exact ⟨_, (Option.some.inj hd).symm⟩
    · cases hd
  refine ⟨fun p => ?_, fun p d hd => ?_⟩
  · rw [(hM.sc p h strK_xml).2, hD p]
    cases e : nearR td l p with
    | none => rfl
    | some u =>
      obtain ⟨j, _, x, hxm, rfl⟩ := nearR_some e
      show (if u = Str.ofString "" then none else some (.str u)) = if u = Str.ofString "" then PySem.Spec.lookup (.str x.1) xmlD else some (.str u)
      rw [look_xml ((hM.at_td j).2 x hxm).1]
  · rw [(hM.sc p h strK_xml).2] at hd
    cases e : nearR td l p with
    | none => rw [e] at hd; exact hx p d hd
    | some u =>
      rw [e] at hd
      have hd' : (if u = Str.ofString "" then none else some (PyData.str u)) = some d := hd
      split at hd'
      · cases hd'
      · exact ⟨u, (Option.some.inj hd').symm⟩
/-- the rows that count, lot by lot -/
noncomputable def keptR (td : TD) : List Nat → List Str → List (List ToldR)
  | [], _ => []
  | j :: r, met => (tdAt td j).filter (keepR met) :: keptR td r (lotR (tdAt td j) met).2
theorem lotsR_kept {td : TD} (hnd : ∀ j, ((tdAt td j).map (·.1)).Nodup) : ∀ {l : List Nat} {met : List Str}, lotsR td l met = (keptR td l met).map fun z => z.map fun x => x.2.2
  | [], _ => rfl
  | j :: l, met => by
    show (lotR (tdAt td j) met).1 :: lotsR td l _ = _
    rw [lotR_eq (hnd j), lotsR_kept hnd]; rfl
theorem kept_names {td : TD} (hnd : ∀ j, ((tdAt td j).map (·.1)).Nodup) : ∀ {l : List Nat} {met : List Str}, ((keptR td l met).flatten.map (·.1)).Nodup ∧ ∀ x ∈ (keptR td l met).flatten, x.1 ∉ met ∧ ∃ j ∈ l, x ∈ tdAt td j
  | [], _ => ⟨List.nodup_nil, fun x hx => nomatch hx⟩
  | j :: l, met => by
    obtain ⟨h1, h2⟩ := kept_names hnd (l := l) (met := (lotR (tdAt td j) met).2)
    have e : (keptR td (j :: l) met).flatten = (tdAt td j).filter (keepR met) ++ (keptR td l (lotR (tdAt td j) met).2).flatten := rfl
    rw [e]
    refine ⟨?_, fun x hx => ?_⟩
    · rw [List.map_append, List.nodup_append]
      refine ⟨(hnd j).sublist (List.filter_sublist.map _), h1, fun u hu v hv q => ?_⟩
      obtain ⟨x, hx, rfl⟩ := List.mem_map.mp hu
      obtain ⟨y, hy, rfl⟩ := List.mem_map.mp hv
      have := (h2 y hy).1
      rw [lotR_met] at this
      exact this (.inr ⟨x, (List.mem_filter.mp hx).1, q⟩)
    · rcases List.mem_append.mp hx with hx | hx
      · obtain ⟨h3, h4⟩ := List.mem_filter.mp hx
        refine ⟨?_, j, .head _, h3⟩
        have := (Bool.and_eq_true_iff.mp h4).1
        exact of_decide_eq_true this
      · obtain ⟨h3, i, hi, h4⟩ := h2 x hx
        rw [lotR_met] at h3
        exact ⟨fun q => h3 (.inl q), i, .tail _ hi, h4⟩
theorem kept_sub {td : TD} : ∀ {l : List Nat} {met : List Str}, (keptR td l met).reverse.flatten.Sublist ((l.map (tdAt td)).reverse.flatten)
  | [], _ => List.Sublist.refl _
  | j :: l, met => by
    have ih := kept_sub (td := td) (l := l) (met := (lotR (tdAt td j) met).2)
    show ((tdAt td j).filter (keepR met) :: keptR td l (lotR (tdAt td j) met).2).reverse.flatten.Sublist ((tdAt td j :: l.map (tdAt td)).reverse.flatten)
    rw [List.reverse_cons, List.reverse_cons, List.flatten_append, List.flatten_append, List.flatten_singleton, List.flatten_singleton]
    exact List.Sublist.append ih List.filter_sublist
theorem kept_len (hM : MadeInv rs els as td ot) (l : List Nat) : (keptR td l []).reverse.flatten.length ≤ 3 := by
  have h := kept_names (fun j => (hM.at_td j).1) (l := l) (met := [])
  have h1 := nodup_len (s := [Str.ofString "", Str.ofString "p", Str.ofString "q"]) h.1 fun y hy => by
    obtain ⟨x, hx, rfl⟩ := List.mem_map.mp hy
    obtain ⟨_, j, _, hxj⟩ := h.2 x hx
    rcases ((hM.at_td j).2 x hxj).1 with e | e | e
    · rw [e]; exact .head _
    · rw [e]; exact .tail _ (.head _)
    · rw [e]; exact .tail _ (.tail _ (.head _))
  rw [List.length_map] at h1
  have e : ∀ qs : List (List ToldR), qs.reverse.flatten.length = qs.flatten.length := fun qs => by
    rw [List.length_flatten, List.length_flatten, List.map_reverse, List.sum_reverse]
  rw [e]; exact h1
end
/-- a place on the way down to, or beneath, an element whose place ends in ps -/
noncomputable def OnLine (ps q : List Int) : Prop := ∃ u c, q = 0 :: (u ++ [0, c]) ∧ (ps = u ∨ ∃ r, ps = u ++ 2 :: r)
noncomputable abbrev Rq (a b : Nat × List Int) : Prop := a.1 ≠ b.1 ∧ lexLt a.2 b.2 = true
section
variable {rs : List Row} {els : List Nat} {as : List Int} {td : TD} {ot : List Nat}
/-- what is known of a line of elements, the nearest first -/
structure LineSt (rs : List Row) (els : List Nat) (td : TD) (l : List Nat) (ps : List Int) (qs : List (Nat × List Int)) : Prop where
  up : UpV rs (l.map (elAt els) ++ [0])
  tail : PlaceTail rs 0 (l.map (elAt els)).reverse ps
  nodes : qs.map (·.1) = ((l.map fun j => (tdAt td j).map (fun x => x.2.2)).reverse.flatten)
  pl : ∀ q ∈ qs, Place rs q.1 q.2 ∧ OnLine ps q.2 ∧ ∃ i ∈ l, ∃ r, rs[q.1]? = some r ∧ r.par = some (elAt els i)
  pw : qs.Pairwise Rq
theorem MadeInv.lineNil (hM : MadeInv rs els as td ot) : LineSt rs els td [] [] [] :=
  ⟨hM.at_root.2.2, .nil, rfl, fun q hq => (nomatch hq), .nil⟩
theorem lexLt_on {ps : List Int} {q : List Int} {idx b : Int} (h : OnLine ps q) : lexLt q (0 :: ((ps ++ [2, idx]) ++ [0, b])) = true := by
  obtain ⟨u, c, rfl, h⟩ := h
  have key : ∀ r : List Int, lexLt (0 :: (u ++ [0, c])) (0 :: (u ++ 2 :: r)) = true := fun r => by
    show (if (0 : Int) = 0 then lexLt (u ++ [0, c]) (u ++ 2 :: r) else decide ((0 : Int) < 0)) = true
    rw [if_pos rfl, lexLt_app]
    rfl
  rcases h with rfl | ⟨r, rfl⟩
  · have := key ([idx] ++ [0, b])
    rw [List.append_assoc]; exact this
  · have := key (r ++ [2, idx] ++ [0, b])
    simpa [List.append_assoc] using this
theorem lex_two {p : List Int} {b c : Int} (h : b < c) : lexLt (0 :: (p ++ [0, b])) (0 :: (p ++ [0, c])) = true := by
  show (if (0 : Int) = 0 then lexLt (p ++ [0, b]) (p ++ [0, c]) else decide ((0 : Int) < 0)) = true
  rw [if_pos rfl, lexLt_app]
  show (if (0 : Int) = 0 then (if b = c then lexLt [] [] else decide (b < c)) else decide ((0 : Int) < 0)) = true
  rw [if_pos rfl, if_neg (by omega)]
  exact decide_eq_true h
theorem nodup_at {l : List Nat} (hn : l.Nodup) {i j : Nat} (hi : i < l.length) (hj : j < l.length) (e : elAt l i = elAt l j) : i = j :=
  (List.getElem?_inj hi hn).mp ((el_get hi).trans ((congrArg some e).trans (el_get hj).symm))
theorem onLine_up {ps q : List Int} {idx : Int} (h : OnLine ps q) : OnLine (ps ++ [2, idx]) q := by
  obtain ⟨u, c, rfl, h⟩ := h
  refine ⟨u, c, rfl, .inr ?_⟩
  rcases h with rfl | ⟨r, rfl⟩
  · exact ⟨[idx], rfl⟩
  · exact ⟨r ++ [2, idx], by rw [List.append_assoc]; rfl⟩
theorem MadeInv.lineStep (hM : MadeInv rs els as td ot) {l : List Nat} {ps : List Int} {qs : List (Nat × List Int)} (S : LineSt rs els td l ps qs) (hl : l.length ≤ 20) {k : Nat} (hk : k < els.length) (hlt : ∀ j ∈ l, j < k)
    (hpe : ∀ r, rs[elAt els k]? = some r → r.par = (l.map (elAt els) ++ [0]).head?) : ∃ ps' qs', LineSt rs els td (k :: l) ps' qs' := by
  obtain ⟨r, a, pe, rp, h1, h2, h3, h4, h5, h6, h7, h8⟩ := hM.at_el hk
  have hp := hpe r h1
  rw [h5] at hp
  have hup : Up rs (elAt els k) (l.map (elAt els) ++ [0]) := by
    cases l with
    | nil =>
      obtain rfl : pe = 0 := Option.some.inj hp
      exact .step h1 h5 S.up
    | cons j l' =>
      obtain rfl : pe = elAt els j := Option.some.inj hp
      exact .step h1 h5 S.up
  have hlast : (0 :: (l.map (elAt els)).reverse).getLast? = some pe := by
    have e : 0 :: (l.map (elAt els)).reverse = (l.map (elAt els) ++ [0]).reverse := by rw [List.reverse_append]; rfl
    rw [e, List.getLast?_reverse, ← hp]
  have htail := S.tail.snoc hlast (Among.el h7 h1 h2 h8)
  generalize hidx : ((rp.ch.idxOf (elAt els k) : Nat) : Int) = idx at htail
  have hrev : ((k :: l).map (elAt els)).reverse = (l.map (elAt els)).reverse ++ [elAt els k] := by rw [List.map_cons, List.reverse_cons]
  rw [← hrev] at htail
  have hnd : ((tdAt td k).map (fun x => x.2.2)).Nodup := by rw [← h4]; exact (hM.low _ r h1).1
  generalize hns : (tdAt td k).map (fun x => x.2.2) = ns at hnd h4
  have hnew : ∀ (b x : Nat), ns[b]? = some x → Place rs x (0 :: ((ps ++ [2, idx]) ++ [0, (b : Int)])) ∧ ∃ q, rs[x]? = some q ∧ q.par = some (elAt els k) := fun b x hb => by
    have hx : x ∈ ns := List.mem_of_getElem? hb
    rw [← hns] at hx
    obtain ⟨y, hy, rfl⟩ := List.mem_map.mp hx
    obtain ⟨q, q1, q2, q3, q4, q5⟩ := ((hM.at_td k).2 y hy).2.1
    refine ⟨?_, q, q1, q5⟩
    have hU : Up rs y.2.2 (elAt els k :: (l.map (elAt els) ++ [0])) := .step q1 q5 hup
    have hlast2 : (0 :: ((k :: l).map (elAt els)).reverse).getLast? = some (elAt els k) := by
      rw [hrev, ← List.cons_append, List.getLast?_append]; rfl
    have ht := htail.snoc hlast2 (Among.ns h1 q1 q2 (by rw [h4]; exact List.mem_of_getElem? hb))
    rw [h4, idxOf_get hnd hb] at ht
    refine Place.mk (a := 0) hU (by simp; omega) ?_ ht
    simp [List.reverse_append]
  refine ⟨ps ++ [2, idx], qs ++ (List.range ns.length).map (fun b => (ns.getD b 0, 0 :: ((ps ++ [2, idx]) ++ [0, (b : Int)]))), ?_⟩
  have hget : ∀ b, b < ns.length → ns[b]? = some (ns.getD b 0) := fun b hb => el_get hb
  refine ⟨hup, htail, ?_, fun q hq => ?_, ?_⟩
  · rw [List.map_append, S.nodes, List.map_cons, List.reverse_cons, List.flatten_append, List.flatten_singleton, hns, List.map_map]
    congr 1
    refine List.ext_getElem? fun b => ?_
    rw [List.getElem?_map]
    by_cases hb : b < ns.length
    · rw [List.getElem?_range hb, hget b hb]; rfl
    · rw [List.getElem?_eq_none (by rw [List.length_range]; omega), List.getElem?_eq_none (by omega)]; rfl
  · rcases List.mem_append.mp hq with hq | hq
    · obtain ⟨a1, a2, i, hi, a3⟩ := S.pl q hq
      exact ⟨a1, onLine_up a2, i, .tail _ hi, a3⟩
    · obtain ⟨b, hb, rfl⟩ := List.mem_map.mp hq
      obtain ⟨a1, a2⟩ := hnew b _ (hget b (List.mem_range.mp hb))
      exact ⟨a1, ⟨ps ++ [2, idx], b, rfl, .inl rfl⟩, k, .head _, a2⟩
  · rw [List.pairwise_append]
    refine ⟨S.pw, ?_, fun x hx y hy => ?_⟩
    · rw [List.pairwise_map]
      refine List.Pairwise.imp_of_mem ?_ List.pairwise_lt_range
      intro b c hb hc hbc
      have hb' := List.mem_range.mp hb
      have hc' := List.mem_range.mp hc
      refine ⟨fun e => ?_, ?_⟩
      · have := nodup_at hnd hb' hc' e
        omega
      · exact lex_two (by omega)
    · obtain ⟨b, hb, rfl⟩ := List.mem_map.mp hy
      obtain ⟨_, a2, i, hi, r1, a3, a4⟩ := S.pl x hx
      obtain ⟨_, q, a5, a6⟩ := hnew b _ (hget b (List.mem_range.mp hb))
      refine ⟨fun e => ?_, lexLt_on a2⟩
      have e' : x.1 = ns.getD b 0 := e
      rw [e', a5] at a3
      obtain rfl := Option.some.inj a3
      rw [a6] at a4
      have hik := hlt i hi
      have hi' : i < els.length := Nat.lt_trans hik hk
      have := nodup_at hM.nodup hk hi' (Option.some.inj a4)
      omega
theorem MadeInv.lineAt (hM : MadeInv rs els as td ot) (h9 : els.length ≤ 8) : ∀ (n k : Nat), k < n → k < els.length → ∃ l ps qs, Chain as (k : Int) (k :: l) ∧ (∀ j ∈ l, j < k) ∧ l.length ≤ k ∧ LineSt rs els td (k :: l) ps qs
  | 0, _, h, _ => by omega
  | n + 1, k, hn, hk => by
    obtain ⟨r, a, pe, rp, h1, h2, h3, h4, h5, h6, h7, h8⟩ := hM.at_el hk
    rcases h6 with ⟨rfl, rfl⟩ | ⟨j, hj, rfl, he⟩
    · obtain ⟨ps, qs, S⟩ := hM.lineStep hM.lineNil (Nat.zero_le _) hk (fun j hj => nomatch hj) fun r' hr' => by
        rw [h1] at hr'; obtain rfl := Option.some.inj hr'; exact h5
      exact ⟨[], ps, qs, .step h3 .top, fun j hj => (nomatch hj), Nat.zero_le _, S⟩
    · obtain ⟨l, ps, qs, hC, hlt, hlen, S⟩ := hM.lineAt h9 n j (by omega) (by omega)
      have hpe : pe = elAt els j := Option.some.inj (he.symm.trans (el_get (by omega)))
      subst hpe
      obtain ⟨ps', qs', S'⟩ := hM.lineStep S (by rw [List.length_cons]; omega) hk (List.forall_mem_cons.mpr ⟨hj, fun i hi => Nat.lt_trans (hlt i hi) hj⟩) fun r' hr' => by
        rw [h1] at hr'; obtain rfl := Option.some.inj hr'; exact h5
      exact ⟨j :: l, ps', qs', .step h3 hC, List.forall_mem_cons.mpr ⟨hj, fun i hi => Nat.lt_trans (hlt i hi) hj⟩, by rw [List.length_cons]; omega, S'⟩
/-- all that the law asks of one element -/
structure LineAll (rs : List Row) (td : TD) (as : List Int) (k e : Nat) (l anc : List Nat) (qs : List (Nat × List Int)) : Prop where
  chain : Chain as (k : Int) l
  len : l.length ≤ 8
  low : ∀ j ∈ l, j < td.length
  up : Up rs e anc
  ancl : anc.length < 100
  rows : ∀ x ∈ e :: anc, ∃ r, rs[x]? = some r ∧ ∀ j ∈ r.nss, ∃ q, rs[j]? = some q
  nis : nisOf rs (e :: anc) = (dueGo td l.reverse ([], xmlD)).1
  same : SameD (scL rs (e :: anc).reverse xmlD) (dueGo td l.reverse ([], xmlD)).2
  nodes : qs.map (·.1) = (dueGo td l.reverse ([], xmlD)).1
  place : ∀ q ∈ qs, Place rs q.1 q.2
  pw : qs.Pairwise Rq
  three : qs.length ≤ 3
theorem MadeInv.all_of (hM : MadeInv rs els as td ot) (h9 : els.length ≤ 8) {k e : Nat} (he : els[k]? = some e) : ∃ l anc qs, LineAll rs td as k e l anc qs := by
  have hk := (List.getElem?_eq_some_iff.mp he).1
  obtain rfl : elAt els k = e := Option.some.inj ((el_get hk).symm.trans he)
  obtain ⟨l, ps, qs, hC, hlt, hlen, S⟩ := hM.lineAt h9 (k + 1) k (Nat.lt_succ_self _) hk
  have hlow : ∀ j ∈ k :: l, j < els.length := List.forall_mem_cons.mpr ⟨hk, fun j hj => Nat.lt_trans (hlt j hj) hk⟩
  have hnd : ∀ j, ((tdAt td j).map (·.1)).Nodup := fun j => (hM.at_td j).1
  obtain ⟨D, hD, hl⟩ := due_line hnd (k :: l) [] [] ([], xmlD) (fun p => by simp [laterB])
  have hD' : dueGo td (k :: l).reverse ([], xmlD) = ((lotsR td (k :: l) []).reverse.flatten, D) := by
    rw [List.append_nil] at hD
    rw [hD]; rfl
  have hsame := hM.same (l := k :: l) hlow (D := D) fun p => by
    have := hl p
    have e0 : laterB td [] p = false := rfl
    rw [e0, if_neg Bool.false_ne_true] at this
    exact this
  have hkept : (lotsR td (k :: l) []).reverse.flatten = ((keptR td (k :: l) []).reverse.flatten).map fun x => x.2.2 := by
    rw [lotsR_kept hnd, ← List.map_reverse, ← List.map_flatten]
  have hsub : ((lotsR td (k :: l) []).reverse.flatten).Sublist (qs.map (·.1)) := by
    rw [hkept, S.nodes]
    have := (kept_sub (td := td) (l := k :: l) (met := [])).map fun x => x.2.2
    have e1 : (((k :: l).map (tdAt td)).reverse.flatten).map (fun x => x.2.2) = ((k :: l).map fun j => (tdAt td j).map (fun x => x.2.2)).reverse.flatten := by
      rw [List.map_flatten, List.map_reverse, List.map_map]; rfl
    rw [e1] at this
    exact this
  obtain ⟨qs', hq1, hq2⟩ := List.sublist_map_iff.mp hsub
  have hanc : (l.map (elAt els) ++ [0]).length < 100 := by rw [List.length_append, List.length_map, List.length_singleton]; omega
  have hup : Up rs (elAt els k) (l.map (elAt els) ++ [0]) := by
    have := S.up
    rw [List.map_cons, List.cons_append] at this
    exact this
  refine ⟨k :: l, l.map (elAt els) ++ [0], qs', ⟨hC, by rw [List.length_cons]; omega, fun j hj => by rw [hM.lt]; exact hlow j hj, hup, hanc, fun x hx => ?_, ?_, ?_, ?_, fun q hq => (S.pl q (hq1.subset hq)).1, S.pw.sublist hq1, ?_⟩⟩
  · have hrow : ∃ r, rs[x]? = some r := by
      rcases List.mem_cons.mp hx with rfl | hx
      · obtain ⟨r, _, _, _, h1, _⟩ := hM.at_el hk
        exact ⟨r, h1⟩
      · rcases List.mem_append.mp hx with hx | hx
        · obtain ⟨j, hj, rfl⟩ := List.mem_map.mp hx
          obtain ⟨r, _, _, _, h1, _⟩ := hM.at_el (hlow j (.tail _ hj))
          exact ⟨r, h1⟩
        · rw [List.mem_singleton.mp hx]
          obtain ⟨r, h1, _⟩ := hM.root
          exact ⟨r, h1⟩
    obtain ⟨r, hr⟩ := hrow
    exact ⟨r, hr, fun j hj => ⟨_, List.getElem?_eq_getElem ((hM.low x r hr).2.1 j (.inr hj))⟩⟩
  · rw [hD']
    exact hM.nis (l := k :: l) hlow
  · rw [hD']
    exact hsame
  · rw [hD']; exact hq2.symm
  · have h1 := kept_len hM (k :: l)
    have h2 : (qs'.map (·.1)).length = _ := congrArg List.length (hq2.symm.trans hkept)
    rw [List.length_map, List.length_map] at h2
    omega
end
section
variable {w : World} {p : Program} {loose : List Str} {mean : ExcName → Option Value} {mg mb : Str → Option Value} {A A₀ : Around} {s : Shared} {base h₀ : Heap} {outer : List Env} {env : Env} {L : Addr} {m : Str → Option Value}
theorem law_made_c0 {T dT R S : Addr} {tl own : List (Addr × Obj)} {x y : Int} {t1 t2 : Tok} {n : Nat} (C : Call w p loose mean mg mb A A₀ base outer env h₀ L) (F : Fr h₀ L s.heap m) (hd : Rm A 10)
    (hT : TreeM w.params T dT R [] tl) (N : News h₀ L s.heap ((S, srcO x y t1 t2 n) :: (own ++ tl))) (hD : Disj own tl) (hS : ∀ q ∈ own ++ tl, q.1 ≠ S) (hx : 0 ≤ x) (hy : 0 ≤ y) (Q E : Value → Shared → Prop)
    (ret : ∀ Lm El Ar Td Ot c n1 n2 n3 n4 ve va vd vo els as td ot rs tt tl' h' tk', IntsAre ve (els.map Int.ofNat) → IntsAre va as → Paired (RowsM tt) vd td → IntsAre vo (ot.map Int.ofNat) → TreeM w.params T dT R rs tl' → MadeInv rs els as td ot → els.length ≤ 5 → rs.length ≤ 40 → ot.length ≤ 40 → (∀ q ∈ own, q ∈ tt) → Disj tt tl' → (∀ q ∈ tt ++ tl', q.1 ≠ El) → (∀ q ∈ tt ++ tl', q.1 ≠ Ar) → (∀ q ∈ tt ++ tl', q.1 ≠ Td) → (∀ q ∈ tt ++ tl', q.1 ≠ Ot) →
      Fr h₀ L h' m → News h₀ L h' ((Lm, W.listOf #[.ref El, .ref Ar, .ref Td, .ref Ot] c) :: (El, W.listOf ve.toArray n1) :: (Ar, W.listOf va.toArray n2) :: (Td, W.listOf vd.toArray n3) :: (Ot, W.listOf vo.toArray n4) :: (tt ++ tl')) → Q (.ref Lm) { s with heap := h', toks := tk' }) :
    wpAny (model prg w) A (call (.ref 342) [.ref S, .ref T]) Q E s := by
  refine fill0 ?_; k_fill; intro _
  obtain ⟨hp0, gn, dr, tk0, os⟩ := s
  dsimp only at F N ret
  have X := C.X
  have T' := C.T
  have BL := C.below
  have hfr := C.frames
  have hf := C.frame
  have hk1 := C.kind
  obtain ⟨hA, dp, frs, gds, un⟩ := A; obtain rfl : hA = none := hd.handled
  dsimp only at hfr
  subst hfr
  refine wpAny_call (code_def BL F X N T' rfl hf hk1 (K := K w.params) (f := 342) (by k_is) (by k_is) hd.room (BindsTo.of_eq (by rfl)) (locs (by rfl)) ?_ (by rfl) (by rfl) (by rfl) (by decide))
  intro g L' h₁ FG F1 N1 B1 X1 T1
  (with_reducible show wpAny _ _ _ _ _ _); k_fold
  obtain ⟨tD, nD, N2⟩ := read_tree (own := (S, srcO x y t1 t2 n) :: own) hT N1
  have hS' : ∀ q ∈ tl, q.1 ≠ S := fun q hq => hS q (List.mem_append_right _ hq)
  clear N1 N
  k_steps
  unfold Stop
  (rename Fr g _ _ _ => F3); (rename News g _ _ _ => N3)
  try dsimp only at F3 N3 ⊢
  refine' new_root_c (own := (S, srcO x y t1 t2 n) :: own) ?C F3 (Rm.sub hd (by decide)) (Nat.zero_le _) hT (news_sub N3 fun q hq => .tail _ (.tail _ hq)) ?D _ _ ?_
  case C => exact Call.step B1 X1 T1
  case D => exact List.forall_mem_cons.mpr ⟨hS', hD⟩
  clear F3 N3
  intro a1 d1 c1 e1 f1 tl1 h1 tk1 u0 hT1 F4 N4 hD1
  simp only [List.nil_append, List.length_nil] at hT1 ⊢
  have hS1 : ∀ q ∈ own ++ tl1, q.1 ≠ S := fun q hq => by
    rcases List.mem_append.mp hq with hq | hq
    · exact hS q (List.mem_append_left _ hq)
    · exact hD1 _ (.head _) q hq
  have N5 : News g L' h1 ((S, srcO x y t1 t2 n) :: (own ++ tl1)) := N4
  clear N4
  generalize hz : own ++ tl1 = z at N5 hS1
  k_steps
  unfold Stop
  (rename Fr g _ _ _ => F6)
  refine For_invVF F6 rfl rfl ?_
  k_steps
  unfold Stop
  (rename News g _ _ _ => N6); (rename Fr g _ _ _ => F7)
  rename_i El _ lEl Ar _ lAr Td _ lTd Ot _ lOt Dt _ lDt _ _ _ _ _
  try dsimp only at F7 N6 ⊢
  obtain ⟨e1, zEl⟩ := lEl
  obtain ⟨e2, e3, zAr⟩ := lAr
  obtain ⟨e4, e5, e6, zTd⟩ := lTd
  obtain ⟨e7, e8, e9, e10, zOt⟩ := lOt
  clear lDt
  have zEl' : ∀ q ∈ z, q.1 ≠ El := fun q hq => Nat.ne_of_lt (allLt_mem zEl q hq)
  have zAr' : ∀ q ∈ z, q.1 ≠ Ar := fun q hq => Nat.ne_of_lt (allLt_mem zAr q hq)
  have zTd' : ∀ q ∈ z, q.1 ≠ Td := fun q hq => Nat.ne_of_lt (allLt_mem zTd q hq)
  have zOt' : ∀ q ∈ z, q.1 ≠ Ot := fun q hq => Nat.ne_of_lt (allLt_mem zOt q hq)
  have nS : @Ne Nat S El ∧ @Ne Nat S Ar ∧ @Ne Nat S Td ∧ @Ne Nat S Ot := ⟨Nat.ne_of_lt e1, Nat.ne_of_lt e3, Nat.ne_of_lt e6, Nat.ne_of_lt e10⟩
  have nE : @Ne Nat El Ar ∧ @Ne Nat El Td ∧ @Ne Nat El Ot ∧ @Ne Nat Ar Td ∧ @Ne Nat Ar Ot ∧ @Ne Nat Td Ot := ⟨Nat.ne_of_lt e2, Nat.ne_of_lt e5, Nat.ne_of_lt e9, Nat.ne_of_lt e4, Nat.ne_of_lt e8, Nat.ne_of_lt e7⟩
  refine useTake X1 T1 F7 (news_sub N6 (l' := (S, srcO x y t1 t2 n) :: (El, W.listOf ([] : List Value).toArray 0) :: (Ar, W.listOf ([] : List Value).toArray 0) :: (Td, W.listOf ([] : List Value).toArray 0) :: (Ot, W.listOf [Value.int ((0 : Nat) : Int) u0].toArray 0) :: z) (by walk_at "subT")) ?_ hx hy (Rm.sub hd (by decide)) (by decide) (by decide) _ _ ?_
  · exact List.forall_mem_cons.mpr ⟨Ne.symm nS.1, List.forall_mem_cons.mpr ⟨Ne.symm nS.2.1, List.forall_mem_cons.mpr ⟨Ne.symm nS.2.2.1, List.forall_mem_cons.mpr ⟨Ne.symm nS.2.2.2, hS1⟩⟩⟩⟩
  clear F7 N6
  intro r tr h2 tk2 x1 y1 t3 t4 n5 F7 N7 hx1 hy1 hr
  k_steps
  unfold Stop
  (rename News g _ _ _ => N6); (rename Fr g _ _ _ => F6)
  try dsimp only at F6 N6 ⊢
  refine range1_rows F6 N6 ?_
  intro h3 tk3 w1 w2 w3 hRg F8 N8 _
  k_steps
  unfold Stop
  have eb : (1 + (r : Int)) = ((1 + r : Nat) : Int) := by omega
  rw [eb] at hRg
  subst hz
  obtain ⟨rg1, rg2⟩ := rangeN (1 + r) (by omega)
  refine eachR (MaJ w.params T dT R S El Ar Td Ot u0 own) (n := 1 + r) rfl hRg rg1 rg2 F8 N8 (.mk (ve := []) (va := []) (vd := []) (vo := [.int ((0 : Nat) : Int) u0]) (els := []) (as := []) (td := []) (ot := [0]) (tt := own) (tl := tl1) (k := 0) ⟨rfl, rfl, rfl, rfl, rfl, rfl, rfl, trivial⟩ hx1 hy1 .nil .nil .nil (.cons _ _ .nil) hT1 (fun q hq => hD1 q (.tail _ hq)) hS1 zEl' zAr' zTd' zOt' (MadeInv.start rfl rfl rfl rfl rfl) rfl (Nat.le_refl _) (Nat.le_refl _) (fun q hq => hq)) ?turn ?done
  case turn =>
    clear hS1 zEl' zAr' zTd' zOt' hT1 hD1 F8 N8 hRg hx1 hy1 zEl zAr zTd zOt F6 N6
    intro I hI i v m' nx it h tk hv hoff hJ F2 N2
    obtain ⟨hi, ti, rfl⟩ := hv
    cases hJ with
    | mk hm hx hy hve hva hvd hvo hT hDj oS oE oA oT oO hM hk hlen hot ho0 =>
    rename_i x y t1 t2 n n1 n2 n3 n4 els ot as td ve va vd vo rs tt tl
    have F3 := fr_has1 F2 hm
    dsimp only [setL, envOf] at F3
    dsimp only [envOf] at N2
    clear F2
    have offI : ∀ q ∈ tt ++ tl, q.1 ≠ I := fun q hq => hoff q (.tail _ (.tail _ (.tail _ (.tail _ (.tail _ hq)))))
    have nI : @Ne Nat S I ∧ @Ne Nat El I ∧ @Ne Nat Ar I ∧ @Ne Nat Td I ∧ @Ne Nat Ot I := ⟨hoff _ (.head _), hoff _ (.tail _ (.head _)), hoff _ (.tail _ (.tail _ (.head _))), hoff _ (.tail _ (.tail _ (.tail _ (.head _)))), hoff _ (.tail _ (.tail _ (.tail _ (.tail _ (.head _)))))⟩
    generalize hz : tt ++ tl = z at N2 oS oE oA oT oO offI
    generalize hPo : UnrPost _ _ _ _ _ _ _ = Po
    have hvel : ve.length = els.length := ids_size hve
    have zs1 : va.toArray.size ≤ sizeLine := size_of (by rw [hva.length, hM.la]; omega)
    have zs2 : ve.toArray.size ≤ sizeLine := size_of (by omega)
    k_steps
    unfold Stop
    (rename Fr g _ _ _ => F4); (rename News g _ _ _ => N4)
    try dsimp only at F4 N4 ⊢
    refine ar_split F4 (S := S) (k := i) ((I, it) :: (El, W.listOf ve.toArray n1) :: (Ar, W.listOf va.toArray n2) :: (Td, W.listOf vd.toArray n3) :: (Ot, W.listOf vo.toArray n4) :: z) ?ar1 ?ar2
    case ar1 =>
      refine IfExp_ ?_
      by_cases hne : els.map Int.ofNat = []
      · have hc : (!decide (els.map Int.ofNat = [])) = false := by rw [decide_eq_true hne]; rfl
        k_steps
        (rename Fr g _ _ _ => F5); (rename News g _ _ _ => N5)
        try dsimp only at F5 N5 ⊢
        exact .mk (.inl rfl) F5 (news_sub N5 (by walk_at "subT")) hx hy
      · have hc : (!decide (els.map Int.ofNat = [])) = true := by rw [decide_eq_false hne]; rfl
        k_steps
        unfold Stop
        (rename Fr g _ _ _ => F5); (rename News g _ _ _ => N5)
        try dsimp only at F5 N5 ⊢
        refine range1_rows F5 N5 ?_
        intro h9 tk9 w4 w5 w6 hRg F8 N8 _
        obtain ⟨rg3, rg4⟩ := rangeN ve.length (by omega)
        k_steps
        unfold Stop
        refine kll_range rfl F8 N8 hRg rg3 rg4 (by omega) ?_
        intro D us c h10 tk10 F9 N9 lD hus
        k_steps
        unfold Stop
        have hul : us.length = ve.length := by rw [hus.length, rangeKs_length]
        have hpos : els.length ≠ 0 := fun e => hne (by rw [List.length_eq_zero_iff.mp e]; rfl)
        refine useOne (vs := us) X1 T1 F9 (news_sub N9 (l' := (S, srcO x y t1 t2 n) :: (D, W.listOf us.toArray c) :: (I, it) :: (El, W.listOf ve.toArray n1) :: (Ar, W.listOf va.toArray n2) :: (Td, W.listOf vd.toArray n3) :: (Ot, W.listOf vo.toArray n4) :: z) (by walk_at "subT")) ?_ hx hy (Rm.sub hd (by decide)) (.head _) (by omega) (by omega) _ _ ?_
        · have lS : @Ne Nat D S := Ne.symm (Nat.ne_of_lt (lD (S, srcO x y t1 t2 n) (by k_mem)))
          exact List.forall_mem_cons.mpr ⟨lS, List.forall_mem_cons.mpr ⟨Ne.symm nI.1, List.forall_mem_cons.mpr ⟨Ne.symm nS.1, List.forall_mem_cons.mpr ⟨Ne.symm nS.2.1, List.forall_mem_cons.mpr ⟨Ne.symm nS.2.2.1, List.forall_mem_cons.mpr ⟨Ne.symm nS.2.2.2, oS⟩⟩⟩⟩⟩⟩
        intro r5 v5 h11 tk11 x5 y5 t5 t6 n6 F10 N10 hx5 hy5 hv5
        obtain ⟨j, u5, hj, rfl⟩ := ints_range hus hv5
        k_steps
        (rename Fr g _ _ _ => F5); (rename News g _ _ _ => N5)
        try dsimp only at F5 N5 ⊢
        exact .mk (.inr ⟨j, by omega, rfl⟩) F5 (news_sub N5 (by walk_at "subT")) hx5 hy5
    case ar2 =>
    intro v5 s5 hv5
    clear F4 N4
    cases hv5 with
    | mk ha F5 N5 hx5 hy5 =>
    rename_i a u5 x5 y5 t5 t6 n5 tk5 h5
    obtain ⟨tD, nD, N6⟩ := with_tree hT N5 (fun q hq => .tail _ (.tail _ (.tail _ (.tail _ (.tail _ (.tail _ (hz ▸ List.mem_append_right _ hq)))))))
    have fT := tree_ne hT (hz ▸ oA)
    have hB : Hid (rs.length ≤ 1 + 6 * i ∧ ot.length ≤ 1 + 2 * i) := ⟨hlen, hot⟩
    clear N5 hlen hot rg1 rg2 eb
    k_steps
    unfold Stop
    (rename Fr g _ _ _ => F4); (rename News g _ _ _ => N4)
    try dsimp only at F4 N4 ⊢
    refine nu_split F4 ((S, srcO x5 y5 t5 t6 n5) :: (I, it) :: (El, W.listOf ve.toArray n1) :: (Ar, W.listOf (va ++ [Value.int a u5]).toArray (n2 + 1)) :: (Td, W.listOf vd.toArray n3) :: (Ot, W.listOf vo.toArray n4) :: z) (PeOk els i a) ?nu1 ?nu2
    case nu1 =>
      refine IfExp_ ?_
      rcases ha with rfl | ⟨j, hj, rfl⟩
      · k_steps
        (rename Fr g _ _ _ => F5); (rename News g _ _ _ => N5)
        try dsimp only at F5 N5 ⊢
        rw [List.push_toArray] at N5
        exact .mk (show PeOk els i _ _ from Or.inl ⟨rfl, rfl⟩) F5 (news_sub N5 (by walk_at "subT"))
      · have hc : ((j : Int) == -1) = false := beq_eq_false_iff_ne.mpr (by omega)
        obtain ⟨pe, hpe⟩ : ∃ pe, els[j]? = some pe := ⟨_, List.getElem?_eq_getElem (by omega)⟩
        have e9 : (els.map Int.ofNat).getD (j : Int).toNat 0 = (pe : Int) := by
          rw [List.getD_eq_getElem?_getD, List.getElem?_map, Int.toNat_natCast, hpe]; rfl
        k_steps
        (rename Fr g _ _ _ => F5); (rename News g _ _ _ => N5)
        try dsimp only at F5 N5 ⊢
        rw [List.push_toArray] at N5
        rw [e9]
        exact .mk (show PeOk els i _ _ from Or.inr ⟨j, hj, rfl, hpe⟩) F5 (news_sub N5 (by walk_at "subT"))
    case nu2 =>
    intro v6 s6 hv6
    clear F4 N4
    cases hv6 with
    | mk hpe F6 N6 =>
    rename_i pe u6 tk6 h6
    obtain ⟨rp, hrp, hkp, hcp⟩ := hM.pe_row hpe
    have hpe' : PeOk els els.length a pe := hk ▸ hpe
    k_steps
    unfold Stop
    (rename Fr g _ _ _ => F4); (rename News g _ _ _ => N4)
    try dsimp only at F4 N4 ⊢
    subst hz
    have rS : ∀ q ∈ tl, q.1 ≠ S := fun q hq => oS q (List.mem_append_right _ hq)
    have rE : ∀ q ∈ tl, q.1 ≠ El := fun q hq => oE q (List.mem_append_right _ hq)
    have rA : ∀ q ∈ tl, q.1 ≠ Ar := fun q hq => oA q (List.mem_append_right _ hq)
    have rT : ∀ q ∈ tl, q.1 ≠ Td := fun q hq => oT q (List.mem_append_right _ hq)
    have rO : ∀ q ∈ tl, q.1 ≠ Ot := fun q hq => oO q (List.mem_append_right _ hq)
    have rI : ∀ q ∈ tl, q.1 ≠ I := fun q hq => offI q (List.mem_append_right _ hq)
    have hl31 : rs.length ≤ 31 := by have := hB.1; omega
    refine' add_element_c (own := (S, srcO x5 y5 t5 t6 n5) :: (I, it) :: (El, W.listOf ve.toArray n1) :: (Ar, W.listOf (va ++ [Value.int a u5]).toArray (n2 + 1)) :: (Td, W.listOf vd.toArray n3) :: (Ot, W.listOf vo.toArray n4) :: tt) (tl := tl) ?C F4 (Rm.sub hd (by decide)) (by omega) hT N4 ?D hrp hkp (by omega) _ _ ?_
    case C => exact Call.step B1 X1 T1
    case D => exact List.forall_mem_cons.mpr ⟨rS, List.forall_mem_cons.mpr ⟨rI, List.forall_mem_cons.mpr ⟨rE, List.forall_mem_cons.mpr ⟨rA, List.forall_mem_cons.mpr ⟨rT, List.forall_mem_cons.mpr ⟨rO, hDj⟩⟩⟩⟩⟩⟩
    clear F4 N4
    intro a1 d1 c1 e1 f1 tl1 h7 tk7 u7 hT1 F4 N4 hD1
    have hM1 := hM.add_el hpe' hrp (new := rowN a1 d1 c1 e1 f1 (Str.ofString "element") (Str.ofString "e") (Str.ofString "") (Str.ofString "e") (Str.ofString "") (some pe)) rfl rfl ⟨rfl, rfl, rfl⟩
    have N5 : News g L' h7 ((S, srcO x5 y5 t5 t6 n5) :: (I, it) :: (El, W.listOf ve.toArray n1) :: (Ar, W.listOf (va ++ [Value.int a u5]).toArray (n2 + 1)) :: (Td, W.listOf vd.toArray n3) :: (Ot, W.listOf vo.toArray n4) :: (tt ++ tl1)) := N4
    have oS := app_off oS (hD1 _ (.head _))
    have offI := app_off offI (hD1 _ (.tail _ (.head _)))
    have oE := app_off oE (hD1 _ (.tail _ (.tail _ (.head _))))
    have oA := app_off oA (hD1 _ (.tail _ (.tail _ (.tail _ (.head _)))))
    have oT := app_off oT (hD1 _ (.tail _ (.tail _ (.tail _ (.tail _ (.head _))))))
    have oO := app_off oO (hD1 _ (.tail _ (.tail _ (.tail _ (.tail _ (.tail _ (.head _)))))))
    have hDj1 : Disj tt tl1 := fun q hq => hD1 q (.tail _ (.tail _ (.tail _ (.tail _ (.tail _ (.tail _ hq))))))
    clear N4 rS rE rA rT rO rI hD1
    generalize hz : tt ++ tl1 = z at N5 oS oE oA oT oO offI
    k_steps
    unfold Stop
    (rename Fr g _ _ _ => F6)
    refine For_invVF F6 rfl rfl ?_
    k_steps
    unfold Stop
    (rename News g _ _ _ => N7); (rename Fr g _ _ _ => F7)
    rename_i tkp Px _ lPx Rw _ lRw Dt _ lDt _ _ h8
    rw [List.push_toArray] at N7
    try dsimp only at N7 F7 ⊢
    have zP : ∀ q ∈ z, q.1 ≠ Px := fun q hq => Nat.ne_of_lt (allLt_mem lPx.2.2.2.2.2.2 q hq)
    have zR : ∀ q ∈ z, q.1 ≠ Rw := fun q hq => Nat.ne_of_lt (allLt_mem lRw.2.2.2.2.2.2.2 q hq)
    have nP : NeA S Px ∧ NeA I Px ∧ NeA El Px ∧ NeA Ar Px ∧ NeA Td Px ∧ NeA Ot Px ∧ NeA Px Rw := ⟨Nat.ne_of_lt lPx.1, Nat.ne_of_lt lPx.2.1, Nat.ne_of_lt lPx.2.2.1, Nat.ne_of_lt lPx.2.2.2.1, Nat.ne_of_lt lPx.2.2.2.2.1, Nat.ne_of_lt lPx.2.2.2.2.2.1, Nat.ne_of_lt lRw.1⟩
    have nR : NeA S Rw ∧ NeA I Rw ∧ NeA El Rw ∧ NeA Ar Rw ∧ NeA Td Rw ∧ NeA Ot Rw := ⟨Nat.ne_of_lt lRw.2.1, Nat.ne_of_lt lRw.2.2.1, Nat.ne_of_lt lRw.2.2.2.1, Nat.ne_of_lt lRw.2.2.2.2.1, Nat.ne_of_lt lRw.2.2.2.2.2.1, Nat.ne_of_lt lRw.2.2.2.2.2.2.1⟩
    clear lPx lRw lDt
    refine useTake X1 T1 F7 (news_sub N7 (l' := (S, srcO x5 y5 t5 t6 n5) :: (Px, W.listOf [Value.str (Str.ofString "") tkp, Value.str (Str.ofString "p") (tkp + 1), Value.str (Str.ofString "q") (tkp + 1 + 1), Value.str (Str.ofString "") (tkp + 1 + 1 + 1)].toArray 0) :: (Rw, W.listOf ([] : List Value).toArray 0) :: (I, it) :: (El, W.listOf (ve ++ [Value.int (rs.length : Int) u7]).toArray (n1 + 1)) :: (Ar, W.listOf (va ++ [Value.int a u5]).toArray (n2 + 1)) :: (Td, W.listOf vd.toArray n3) :: (Ot, W.listOf vo.toArray n4) :: z) (by walk_at "subT")) ?_ hx5 hy5 (Rm.sub hd (by decide)) (by decide) (by decide) _ _ ?_
    · exact List.forall_mem_cons.mpr ⟨NeA.r nP.1, List.forall_mem_cons.mpr ⟨NeA.r nR.1, List.forall_mem_cons.mpr ⟨Ne.symm nI.1, List.forall_mem_cons.mpr ⟨Ne.symm nS.1, List.forall_mem_cons.mpr ⟨Ne.symm nS.2.1, List.forall_mem_cons.mpr ⟨Ne.symm nS.2.2.1, List.forall_mem_cons.mpr ⟨Ne.symm nS.2.2.2, oS⟩⟩⟩⟩⟩⟩⟩
    clear F7 N7
    intro r2 tr2 h9 tk9 x6 y6 t7 t8 n6 F8 N8 hx6 hy6 hr2
    k_steps
    unfold Stop
    (rename News g _ _ _ => N7); (rename Fr g _ _ _ => F7)
    try dsimp only at F7 N7 ⊢
    refine range1_rows F7 N7 ?_
    intro h10 tk10 w7 w8 w9 hRg2 F9 N9 _
    k_steps
    unfold Stop
    subst hz
    obtain ⟨rg3, rg4⟩ := rangeN r2 (by omega)
    have hel : (els ++ [rs.length])[td.length]? = some rs.length := by rw [show td.length = els.length from hM.lt]; exact get_end
    have helast : (ve ++ [Value.int (rs.length : Int) u7])[(ve ++ [Value.int (rs.length : Int) u7]).length - 1]? = some (Value.int (rs.length : Int) u7) := by
      rw [List.length_append, List.length_singleton, Nat.add_sub_cancel]; exact get_end
    refine eachR (MaI w.params T dT R S El Ar Td Ot Px Rw I it (W.listOf (ve ++ [Value.int (rs.length : Int) u7]).toArray (n1 + 1)) (W.listOf (va ++ [Value.int a u5]).toArray (n2 + 1)) (W.listOf vd.toArray n3) (W.listOf vo.toArray n4) u0 (els ++ [rs.length]) (as ++ [a]) td vd ot rs.length (rs.length + 1) own) (n := r2) rfl hRg2 rg3 rg4 F9 N9 ?start2 ?turn2 ?done2
    case start2 =>
      refine .mk (k := 0) (vr := []) (rows := []) (vp := [Value.str (Str.ofString "") tkp, Value.str (Str.ofString "p") (tkp + 1), Value.str (Str.ofString "q") (tkp + 1 + 1), Value.str (Str.ofString "") (tkp + 1 + 1 + 1)]) ⟨rfl, rfl, rfl, rfl, rfl, rfl, rfl, rfl, rfl, trivial⟩ hx6 hy6 rfl ?_ .nil (Nat.le_refl _) hvd hT1 hDj1 oS zP zR offI oE oA oT oO hM1 hel (grown_new hrp) rfl rfl (by rw [grown_len]; exact Nat.le_refl _) ho0
      refine List.forall_mem_cons.mpr ⟨⟨_, _, rfl, .inl rfl⟩, List.forall_mem_cons.mpr ⟨⟨_, _, rfl, .inr (.inl rfl)⟩, List.forall_mem_cons.mpr ⟨⟨_, _, rfl, .inr (.inr rfl)⟩, List.forall_mem_cons.mpr ⟨⟨_, _, rfl, .inl rfl⟩, List.forall_mem_nil _⟩⟩⟩⟩
    case turn2 =>
      intro I2 hI2
      exact inner_turn.h B1 X1 T1 hd helast (by omega) (by omega) ⟨Nat.ne_of_lt (hI2 _ (.head _)), Nat.ne_of_lt (hI2 _ (.tail _ (.head _))), Nat.ne_of_lt (hI2 _ (.tail _ (.tail _ (.head _)))), Nat.ne_of_lt (hI2 _ (.tail _ (.tail _ (.tail _ (.head _))))), Nat.ne_of_lt (hI2 _ (.tail _ (.tail _ (.tail _ (.tail _ (.head _)))))), Nat.ne_of_lt (hI2 _ (.tail _ (.tail _ (.tail _ (.tail _ (.tail _ (.head _))))))), Nat.ne_of_lt (hI2 _ (.tail _ (.tail _ (.tail _ (.tail _ (.tail _ (.tail _ (.head _)))))))), Nat.ne_of_lt (hI2 _ (.tail _ (.tail _ (.tail _ (.tail _ (.tail _ (.tail _ (.tail _ (.head _))))))))) ⟩
        nP nR ⟨nI.1, nS.1, nS.2.1, nS.2.2.1, nS.2.2.2⟩
    case done2 =>
    clear oS zP zR offI oE oA oT oO hT1 hDj1 F7 N7 F9 N9 hRg2 hx6 hy6 hM1 hvd
    intro m2 nx2 h11 tk11 hJ2 F2 N2
    cases hJ2 with
    | mk hm2 hx7 hy7 hvp hpo hvr hrl hvd hT2 hDj2 oS oP oW oI oE oA oT oO hM2 he2 hre hkre hare hlen2 ho2 =>
    rename_i x7 y7 t9 t10 n7 n8 n9 vp vr rows rs2 re tt2 tl2
    have F3 := fr_has F2 hm2
    dsimp only [setL, envOf] at F3
    dsimp only [envOf] at N2
    clear F2 oP hvp hpo
    have b1 : NeA S El := nS.1
    have b2 : NeA S Ar := nS.2.1
    have b3 : NeA S Td := nS.2.2.1
    have b4 : NeA S Ot := nS.2.2.2
    have b5 : NeA El Td := nE.2.1
    have b6 : NeA Ar Td := nE.2.2.2.1
    have b7 : NeA Td Ot := nE.2.2.2.2.2
    have b8 : NeA El Ot := nE.2.2.1
    have b9 : NeA Ar Ot := nE.2.2.2.2.1
    have c1 : NeA S I := nI.1
    have c2 : NeA I Td := Ne.symm nI.2.2.2.1
    have c3 : NeA I Ot := Ne.symm nI.2.2.2.2
    obtain ⟨p1, p2, p3, p4, p5, p6, p7⟩ := nP
    obtain ⟨r1, r2', r3, r4, r5, r6⟩ := nR
    have i5 : NeA El I := nI.2.1
    have i6 : NeA Ar I := nI.2.2.1
    have hbd : rs2.length ≤ 6 * i + 5 ∧ ot.length ≤ 1 + 2 * i := by unfold Hid at hB; omega
    clear nS nE nI e1 e2 e3 e4 e5 e6 e7 e8 e9 e10
    have N3 := news_sub N2 (l' := (S, srcO x7 y7 t9 t10 n7) :: (Rw, W.listOf vr.toArray n9) :: (I, it) :: (El, W.listOf (ve ++ [Value.int (rs.length : Int) u7]).toArray (n1 + 1)) :: (Ar, W.listOf (va ++ [Value.int a u5]).toArray (n2 + 1)) :: (Td, W.listOf vd.toArray n3) :: (Ot, W.listOf vo.toArray n4) :: (tt2 ++ tl2)) (by walk_at "subT")
    clear N2
    generalize hz2 : tt2 ++ tl2 = z2 at N3 oS oW oI oE oA oT oO
    have zs3 : vd.toArray.size ≤ sizeLine := size_of (by rw [hvd.length]; have := hM.lt; omega)
    have zs4 : vo.toArray.size ≤ sizeLine := size_of (by rw [ids_size hvo]; omega)
    k_steps
    unfold Stop
    (rename News g _ _ _ => N4); (rename Fr g _ _ _ => F4)
    try dsimp only at F4 N4 ⊢
    refine useTake (tt := tk) (top := 2) X1 T1 F4 N4 ?_ hx7 hy7 (Rm.sub hd (by decide)) (by decide) (by decide) _ _ ?_
    · exact List.forall_mem_cons.mpr ⟨r1.r, List.forall_mem_cons.mpr ⟨c1.r, List.forall_mem_cons.mpr ⟨b1.r, List.forall_mem_cons.mpr ⟨b2.r, List.forall_mem_cons.mpr ⟨b3.r, List.forall_mem_cons.mpr ⟨b4.r, oS⟩⟩⟩⟩⟩⟩
    clear F4 N4
    intro r9 tr9 h12 tk12 x8 y8 t11 t12 n10 F5 N5 hx8 hy8 hr9
    rw [List.push_toArray] at N5
    have hvd2 : Paired (RowsM ((Rw, W.listOf vr.toArray n9) :: tt2)) (vd ++ [.ref Rw]) (td ++ [rows]) :=
      paired_snoc (paired_mono (fun _ _ x => x.mono fun q hq => .tail _ hq) hvd) ⟨Rw, vr, n9, rfl, .head _, paired_mono (fun _ _ x => x.mono fun q hq => .tail _ hq) hvr⟩
    by_cases h0 : r9 = 0
    · subst h0
      have hc : (((0 : Nat) : Int) == 0) = true := rfl
      obtain ⟨tD9, nD9, N6⟩ := with_tree hT2 N5 (fun q hq => .tail _ (.tail _ (.tail _ (.tail _ (.tail _ (.tail _ (.tail _ (hz2 ▸ List.mem_append_right _ hq))))))))
      clear N5
      k_steps
      unfold Stop
      (rename Fr g _ _ _ => F6); (rename News g _ _ _ => N6)
      try dsimp only at F6 N6 ⊢
      subst hz2
      have rt : ∀ {X : Addr}, (∀ q ∈ tt2 ++ tl2, q.1 ≠ X) → ∀ q ∈ tl2, q.1 ≠ X := fun h q hq => h q (List.mem_append_right _ hq)
      have N7 := news_sub N6 (l' := (S, srcO x8 y8 t11 t12 n10) :: (Rw, W.listOf vr.toArray n9) :: (I, it) :: (El, W.listOf (ve ++ [Value.int (rs.length : Int) u7]).toArray (n1 + 1)) :: (Ar, W.listOf (va ++ [Value.int a u5]).toArray (n2 + 1)) :: (Td, W.listOf (vd ++ [Value.ref Rw]).toArray (n3 + 1)) :: (Ot, W.listOf vo.toArray n4) :: (tt2 ++ tl2)) (by walk_at "subT")
      clear N6
      refine' set_attribute_c (own := (S, srcO x8 y8 t11 t12 n10) :: (Rw, W.listOf vr.toArray n9) :: (I, it) :: (El, W.listOf (ve ++ [Value.int (rs.length : Int) u7]).toArray (n1 + 1)) :: (Ar, W.listOf (va ++ [Value.int a u5]).toArray (n2 + 1)) :: (Td, W.listOf (vd ++ [Value.ref Rw]).toArray (n3 + 1)) :: (Ot, W.listOf vo.toArray n4) :: tt2) (tl := tl2) ?C F6 (Rm.sub hd (by decide)) (by omega) hT2 N7 ?D hre hkre hare _ _ ?_
      case C => exact Call.step B1 X1 T1
      case D => exact List.forall_mem_cons.mpr ⟨rt oS, List.forall_mem_cons.mpr ⟨rt oW, List.forall_mem_cons.mpr ⟨rt oI, List.forall_mem_cons.mpr ⟨rt oE, List.forall_mem_cons.mpr ⟨rt oA, List.forall_mem_cons.mpr ⟨rt oT, List.forall_mem_cons.mpr ⟨rt oO, hDj2⟩⟩⟩⟩⟩⟩⟩
      clear F6 N7 rt
      intro a1 d1 c1' e1 f1 tl3 h18 tk18 u11 hT3 F6 N6 hD3
      have hM3 := hM2.add_ot (k := 1) hre (by decide) (new := rowN a1 d1 c1' e1 f1 (Str.ofString "attribute") (Str.ofString "a") (Str.ofString "") (Str.ofString "a") (Str.ofString "1") (some rs.length)) ⟨rfl, rfl, rfl⟩ (by show (Str.ofString "attribute" == Str.ofString "element") = false; decide +kernel)
      have N7 : News g L' h18 ((S, srcO x8 y8 t11 t12 n10) :: (Rw, W.listOf vr.toArray n9) :: (I, it) :: (El, W.listOf (ve ++ [Value.int (rs.length : Int) u7]).toArray (n1 + 1)) :: (Ar, W.listOf (va ++ [Value.int a u5]).toArray (n2 + 1)) :: (Td, W.listOf (vd ++ [Value.ref Rw]).toArray (n3 + 1)) :: (Ot, W.listOf vo.toArray n4) :: (tt2 ++ tl3)) := N6
      have oS := app_off oS (hD3 _ (.head _))
      have oW := app_off oW (hD3 _ (.tail _ (.head _)))
      have oI := app_off oI (hD3 _ (.tail _ (.tail _ (.head _))))
      have oE := app_off oE (hD3 _ (.tail _ (.tail _ (.tail _ (.head _)))))
      have oA := app_off oA (hD3 _ (.tail _ (.tail _ (.tail _ (.tail _ (.head _))))))
      have oT := app_off oT (hD3 _ (.tail _ (.tail _ (.tail _ (.tail _ (.tail _ (.head _)))))))
      have oO := app_off oO (hD3 _ (.tail _ (.tail _ (.tail _ (.tail _ (.tail _ (.tail _ (.head _))))))))
      have hDj3 : Disj tt2 tl3 := fun q hq => hD3 q (.tail _ (.tail _ (.tail _ (.tail _ (.tail _ (.tail _ (.tail _ hq)))))))
      obtain ⟨tD7, nD7, N8⟩ := with_tree hT3 N7 (fun q hq => .tail _ (.tail _ (.tail _ (.tail _ (.tail _ (.tail _ (.tail _ (List.mem_append_right _ hq))))))))
      have fT := tree_ne hT3 oO
      have f1' : NeA T Ot := fT.1
      have f2' : NeA dT Ot := fT.2
      clear N6 hD3 N7 fT
      have zvo : vo.toArray.size ≤ sizeLine := size_of (by rw [ids_size hvo]; omega)
      generalize hz3 : tt2 ++ tl3 = z3 at N8 oS oW oI oE oA oT oO
      k_steps
      unfold Stop
      (rename Fr g _ _ _ => F6); (rename News g _ _ _ => N6)
      try dsimp only at F6 N6 ⊢
      subst hz3
      rw [List.push_toArray] at N6
      have rt : ∀ {X : Addr}, (∀ q ∈ tt2 ++ tl3, q.1 ≠ X) → ∀ q ∈ tl3, q.1 ≠ X := fun h q hq => h q (List.mem_append_right _ hq)
      have N7 := news_sub N6 (l' := (S, srcO x8 y8 t11 t12 n10) :: (Rw, W.listOf vr.toArray n9) :: (I, it) :: (El, W.listOf (ve ++ [Value.int (rs.length : Int) u7]).toArray (n1 + 1)) :: (Ar, W.listOf (va ++ [Value.int a u5]).toArray (n2 + 1)) :: (Td, W.listOf (vd ++ [Value.ref Rw]).toArray (n3 + 1)) :: (Ot, W.listOf (vo ++ [Value.int (rs2.length : Int) u11]).toArray (n4 + 1)) :: (tt2 ++ tl3)) (by walk_at "subT")
      clear N6
      have hre3 := grown_at (k := 1) (r := re) (new := rowN a1 d1 c1' e1 f1 (Str.ofString "attribute") (Str.ofString "a") (Str.ofString "") (Str.ofString "a") (Str.ofString "1") (some rs.length)) hre
      have hch3 : (addTo 1 re rs2.length).ch.length ≤ 900 := by
        have := (hM2.low _ re hre).2.2.1
        show re.ch.length ≤ 900
        omega
      refine' add_text_c (own := (S, srcO x8 y8 t11 t12 n10) :: (Rw, W.listOf vr.toArray n9) :: (I, it) :: (El, W.listOf (ve ++ [Value.int (rs.length : Int) u7]).toArray (n1 + 1)) :: (Ar, W.listOf (va ++ [Value.int a u5]).toArray (n2 + 1)) :: (Td, W.listOf (vd ++ [Value.ref Rw]).toArray (n3 + 1)) :: (Ot, W.listOf (vo ++ [Value.int (rs2.length : Int) u11]).toArray (n4 + 1)) :: tt2) (tl := tl3) ?C F6 (Rm.sub hd (by decide)) (by rw [grown_len]; omega) hT3 N7 ?D hre3 (.inr hkre) hch3 _ _ ?_
      case C => exact Call.step B1 X1 T1
      case D => exact List.forall_mem_cons.mpr ⟨rt oS, List.forall_mem_cons.mpr ⟨rt oW, List.forall_mem_cons.mpr ⟨rt oI, List.forall_mem_cons.mpr ⟨rt oE, List.forall_mem_cons.mpr ⟨rt oA, List.forall_mem_cons.mpr ⟨rt oT, List.forall_mem_cons.mpr ⟨rt oO, hDj3⟩⟩⟩⟩⟩⟩⟩
      clear F6 N7 rt f1' f2'
      intro a2 d2 c2' e2 f2 tl4 h19 tk19 u12 hT4 F6 N6 hD4
      have hM4 := hM3.add_ot (k := 0) hre3 (by decide) (new := rowN a2 d2 c2' e2 f2 (Str.ofString "text") (Str.ofString "") (Str.ofString "") (Str.ofString "") (Str.ofString "t") (some rs.length)) ⟨rfl, rfl, rfl⟩ (by show (Str.ofString "text" == Str.ofString "element") = false; decide +kernel)
      have N7 : News g L' h19 ((S, srcO x8 y8 t11 t12 n10) :: (Rw, W.listOf vr.toArray n9) :: (I, it) :: (El, W.listOf (ve ++ [Value.int (rs.length : Int) u7]).toArray (n1 + 1)) :: (Ar, W.listOf (va ++ [Value.int a u5]).toArray (n2 + 1)) :: (Td, W.listOf (vd ++ [Value.ref Rw]).toArray (n3 + 1)) :: (Ot, W.listOf (vo ++ [Value.int (rs2.length : Int) u11]).toArray (n4 + 1)) :: (tt2 ++ tl4)) := N6
      have oS := app_off oS (hD4 _ (.head _))
      have oW := app_off oW (hD4 _ (.tail _ (.head _)))
      have oI := app_off oI (hD4 _ (.tail _ (.tail _ (.head _))))
      have oE := app_off oE (hD4 _ (.tail _ (.tail _ (.tail _ (.head _)))))
      have oA := app_off oA (hD4 _ (.tail _ (.tail _ (.tail _ (.tail _ (.head _))))))
      have oT := app_off oT (hD4 _ (.tail _ (.tail _ (.tail _ (.tail _ (.tail _ (.head _)))))))
      have oO := app_off oO (hD4 _ (.tail _ (.tail _ (.tail _ (.tail _ (.tail _ (.tail _ (.head _))))))))
      have hDj4 : Disj tt2 tl4 := fun q hq => hD4 q (.tail _ (.tail _ (.tail _ (.tail _ (.tail _ (.tail _ (.tail _ hq)))))))
      clear N6 hD4
      have zvo2 : (vo ++ [Value.int (rs2.length : Int) u11]).toArray.size ≤ sizeLine := size_of (by rw [List.length_append, List.length_singleton, ids_size hvo]; omega)
      generalize hz4 : tt2 ++ tl4 = z4 at N7 oS oW oI oE oA oT oO
      k_steps
      subst hPo
      show UnrEnd _ _ _ _ _ _ _
      (rename Fr g _ _ _ => F6); (rename News g _ _ _ => N6)
      try dsimp only at F6 N6 ⊢
      subst hz4
      rw [List.push_toArray] at N6
      have hR : ∀ {X : Addr}, NeA X Rw → (∀ q ∈ tt2 ++ tl4, q.1 ≠ X) → ∀ q ∈ ((Rw, W.listOf vr.toArray n9) :: tt2) ++ tl4, q.1 ≠ X := fun h1 h2 => List.forall_mem_cons.mpr ⟨h1.r, h2⟩
      refine UnrEnd.intro F6 N6 ((S, srcO x8 y8 t11 t12 n10) :: (El, W.listOf (ve ++ [Value.int (rs.length : Int) u7]).toArray (n1 + 1)) :: (Ar, W.listOf (va ++ [Value.int a u5]).toArray (n2 + 1)) :: (Td, W.listOf (vd ++ [Value.ref Rw]).toArray (n3 + 1)) :: (Ot, W.listOf _ _) :: (((Rw, W.listOf vr.toArray n9) :: tt2) ++ tl4))
        (by simp only [List.cons_append]; walk_at "subT") (List.forall_mem_cons.mpr ⟨c1, List.forall_mem_cons.mpr ⟨i5, List.forall_mem_cons.mpr ⟨i6, List.forall_mem_cons.mpr ⟨c2.r, List.forall_mem_cons.mpr ⟨c3.r, hR r2' oI⟩⟩⟩⟩⟩) ?_
      exact .mk ⟨rfl, rfl, rfl, rfl, rfl, rfl, rfl, trivial⟩ hx8 hy8 (ids_snoc hve _ _) (ints_app hva (.cons _ _ .nil)) hvd2 (ids_snoc (ids_snoc hvo rs2.length u11) _ u12) hT4 (List.forall_mem_cons.mpr ⟨fun q hq => oW q (List.mem_append_right _ hq), hDj4⟩) (hR r1 oS) (hR r3 oE) (hR r4 oA) (hR r5 oT) (hR r6 oO) hM4 (by rw [List.length_append, List.length_singleton, hk]) (by rw [grown_len, grown_len]; omega) (by rw [List.length_append, List.length_append, List.length_singleton, List.length_singleton]; omega) (fun q hq => .tail _ (ho2 q hq))
    · have hc : ((r9 : Int) == 0) = false := beq_eq_false_iff_ne.mpr (by omega)
      k_steps
      subst hPo
      show UnrEnd _ _ _ _ _ _ _
      (rename Fr g _ _ _ => F6); (rename News g _ _ _ => N6)
      try dsimp only at F6 N6 ⊢
      subst hz2
      have hR : ∀ {X : Addr}, NeA X Rw → (∀ q ∈ tt2 ++ tl2, q.1 ≠ X) → ∀ q ∈ ((Rw, W.listOf vr.toArray n9) :: tt2) ++ tl2, q.1 ≠ X := fun h1 h2 => List.forall_mem_cons.mpr ⟨h1.r, h2⟩
      refine UnrEnd.intro F6 N6 ((S, srcO x8 y8 t11 t12 n10) :: (El, W.listOf (ve ++ [Value.int (rs.length : Int) u7]).toArray (n1 + 1)) :: (Ar, W.listOf (va ++ [Value.int a u5]).toArray (n2 + 1)) :: (Td, W.listOf (vd ++ [Value.ref Rw]).toArray (n3 + 1)) :: (Ot, W.listOf vo.toArray n4) :: (((Rw, W.listOf vr.toArray n9) :: tt2) ++ tl2))
        (by simp only [List.cons_append]; walk_at "subT") (List.forall_mem_cons.mpr ⟨c1, List.forall_mem_cons.mpr ⟨i5, List.forall_mem_cons.mpr ⟨i6, List.forall_mem_cons.mpr ⟨c2.r, List.forall_mem_cons.mpr ⟨c3.r, hR r2' oI⟩⟩⟩⟩⟩) ?_
      exact .mk ⟨rfl, rfl, rfl, rfl, rfl, rfl, rfl, trivial⟩ hx8 hy8 (ids_snoc hve _ _) (ints_app hva (.cons _ _ .nil)) hvd2 hvo hT2 (List.forall_mem_cons.mpr ⟨fun q hq => oW q (List.mem_append_right _ hq), hDj2⟩) (hR r1 oS) (hR r3 oE) (hR r4 oA) (hR r5 oT) (hR r6 oO) hM2 (by rw [List.length_append, List.length_singleton, hk]) (by omega) (by omega) (fun q hq => .tail _ (ho2 q hq))
  case done =>
    clear hS1 zEl' zAr' zTd' zOt' hT1 hD1 F8 N8 hRg hx1 hy1 zEl zAr zTd zOt F6 N6
    intro m2 nx2 h tk hJ F2 N2
    cases hJ with
    | mk hm hx hy hve hva hvd hvo hT hDj oS oE oA oT oO hM hk hlen hot ho0 =>
    rename_i x y t1 t2 n n1 n2 n3 n4 els ot as td ve va vd vo rs tt tl
    have F3 := fr_has F2 hm
    dsimp only [setL, envOf] at F3
    dsimp only [envOf] at N2
    clear F2
    generalize hz : tt ++ tl = z at N2 oS oE oA oT oO
    k_steps
    subst hz
    (rename Fr h₀ _ _ _ => F9); (rename News h₀ _ _ _ => N9)
    exact ret _ _ _ _ _ _ _ _ _ _ _ _ _ _ _ _ _ _ _ tt tl _ _ hve hva hvd hvo hT hM (by omega) (by omega) (by omega) ho0 hDj oE oA oT oO F9 (news_sub N9 (by walk_at "subT"))
theorem law_made_c {hpS : Heap} {gnS : Array GenState} {drS : Drawn} {tkS : Nat} {osS : OsState} {T dT R S : Addr} {tl own : List (Addr × Obj)} {x y : Int} {t1 t2 : Tok} {n : Nat} (C : Call w p loose mean mg mb A A₀ base outer env h₀ L) (F : Fr h₀ L hpS m) (hd : Rm A 10)
    (hT : TreeM w.params T dT R [] tl) (N : News h₀ L hpS ((S, srcO x y t1 t2 n) :: (own ++ tl))) (hD : Disj own tl) (hS : ∀ q ∈ own ++ tl, q.1 ≠ S) (hx : 0 ≤ x) (hy : 0 ≤ y) (Q E : Value → Shared → Prop)
    (ret : ∀ Lm El Ar Td Ot c n1 n2 n3 n4 ve va vd vo els as td ot rs tt tl' h' tk', IntsAre ve (els.map Int.ofNat) → IntsAre va as → Paired (RowsM tt) vd td → IntsAre vo (ot.map Int.ofNat) → TreeM w.params T dT R rs tl' → MadeInv rs els as td ot → els.length ≤ 5 → rs.length ≤ 40 → ot.length ≤ 40 → (∀ q ∈ own, q ∈ tt) → Disj tt tl' → (∀ q ∈ tt ++ tl', q.1 ≠ El) → (∀ q ∈ tt ++ tl', q.1 ≠ Ar) → (∀ q ∈ tt ++ tl', q.1 ≠ Td) → (∀ q ∈ tt ++ tl', q.1 ≠ Ot) →
      Fr h₀ L h' m → News h₀ L h' ((Lm, W.listOf #[.ref El, .ref Ar, .ref Td, .ref Ot] c) :: (El, W.listOf ve.toArray n1) :: (Ar, W.listOf va.toArray n2) :: (Td, W.listOf vd.toArray n3) :: (Ot, W.listOf vo.toArray n4) :: (tt ++ tl')) → Q (.ref Lm) (Shared.mk h' gnS drS tk' osS)) :
    wpAny (model prg w) A (call (.ref 342) [.ref S, .ref T]) Q E (Shared.mk hpS gnS drS tkS osS) :=
  law_made_c0 (s := (Shared.mk hpS gnS drS tkS osS)) C F hd hT N hD hS hx hy Q E ret
end
theorem xml_str {p : Str} {d : PyData} (hd : PySem.Spec.lookup (.str p) xmlD = some d) : ∃ x, d = .str x := by
  unfold xmlD at hd
  rw [lookup_cons_str] at hd
  split at hd
  · exact ⟨_, (Option.some.inj hd).symm⟩
  · cases hd
section
variable {w : World} {p : Program} {loose : List Str} {mean : ExcName → Option Value} {mg mb : Str → Option Value} {A A₀ : Around} {s : Shared} {base h₀ : Heap} {outer : List Env} {env : Env} {L : Addr} {m : Str → Option Value}
theorem rows_w : True := by
  (k_with "call ref" => with_reducible refine stop_ref [73, 33] (by decide) ?_)
  (k_with "compareOp NotEq ref ref" => refine stop_of ?_)
  (k_with "compareOp Eq ref ref" => refine stop_of ?_)
  trivial
theorem told_right_c0 {own : List (Addr × Obj)} (C : Call w p loose mean mg mb A A₀ base outer env h₀ L) (F : Fr h₀ L s.heap m) (hd : Rm A 10) (N : News h₀ L s.heap own) (Q E : Value → Shared → Prop)
    (ret : ∀ h' tk', Fr h₀ L h' m → News h₀ L h' own → Q (.bool true) { s with heap := h', toks := tk' }) :
    wpAny (model prg w) A (call (.ref 361) []) Q E s := by
  refine fill0 ?_; k_fill; intro _
  obtain ⟨hp0, gn, dr, tk0, os⟩ := s
  dsimp only at F N ret
  have X := C.X
  have T' := C.T
  have BL := C.below
  have hfr := C.frames
  have hf := C.frame
  have hk1 := C.kind
  obtain ⟨hA, dp, frs, gds, un⟩ := A; obtain rfl : hA = none := hd.handled
  dsimp only at hfr
  subst hfr
  refine wpAny_call (code_def BL F X N T' rfl hf hk1 (K := K w.params) (f := 361) (by k_is) (by k_is) hd.room (BindsTo.of_eq (by rfl)) (locs (by rfl)) ?_ (by rfl) (by rfl) (by rfl) (by decide))
  intro g L' h₁ FG F1 N1 B1 X1 T1
  (with_reducible show wpAny _ _ _ _ _ _); k_fold
  k_steps
  unfold Stop
  (rename Fr g _ _ _ => F3); (rename News g _ _ _ => N3)
  rename_i T dT _ lA lB _ _ _ _ _ _ _ R _ lC _ _ _ _ _ _ _ 
  try dsimp only at F3 N3 ⊢
  have hD0 : ∀ tq : Tok, Disj own [(R, W.listOf #[] 0), (T, instObj 312 dT), (dT, dictOf [de w.params "rows" tq (.ref R)] 1)] := fun tq p hp q hq => by
    have a1 := lA p hp
    have a2 := allLt_mem lC.2.2 p hp
    have a3 := Nat.lt_trans a1 lB
    simp only [List.mem_cons, List.not_mem_nil, or_false] at hq
    rcases hq with rfl | rfl | rfl
    · exact Nat.ne_of_gt a2
    · exact Nat.ne_of_gt a3
    · exact Nat.ne_of_gt a1
  refine' new_root_c (own := own) ?C F3 (Rm.sub hd (by decide)) (Nat.zero_le _) tree_start (news_sub N3 fun q hq => (List.mem_append.mp hq).elim (fun h => List.mem_append_right [_, _, _] h) (fun h => List.mem_append_left own h)) (hD0 _) _ _ ?_
  case C => exact Call.step B1 X1 T1
  clear F3 N3 hD0 lA lB lC
  intro a1 d1 c1 e1 f1 tl1 h1 tk1 u1 hT1 F4 N4 hD1
  simp only [List.nil_append, List.length_nil] at hT1 ⊢
  generalize hz : own ++ tl1 = z at N4
  k_steps
  unfold Stop
  (rename Fr g _ _ _ => F3); (rename News g _ _ _ => N3)
  try dsimp only at F3 N3 ⊢
  refine' add_element_c (own := own) (i := 0) ?C F3 (Rm.sub hd (by decide)) (Nat.le_of_ble_eq_true rfl) hT1 (hz ▸ N3) hD1 rfl (.inl rfl) (Nat.zero_le _) _ _ ?_
  case C => exact Call.step B1 X1 T1
  clear F3 N3
  intro a2 d2 c2 e2 f2 tl2 h2 tk2 u2 hT2 F4 N4 hD2
  generalize hr0 : rowN a1 d1 c1 e1 f1 (Str.ofString "root") (Str.ofString "") (Str.ofString "") (Str.ofString "") (Str.ofString "") none = r0 at hT1 hT2
  generalize hr1 : rowN a2 d2 c2 e2 f2 (Str.ofString "element") (Str.ofString "a") (Str.ofString "") (Str.ofString "a") (Str.ofString "") (some 0) = r1 at hT2
  replace hT2 := show TreeM w.params _ _ _ [addTo 0 r0 1, r1] tl2 from hT2
  obtain ⟨t2, n2, N5⟩ := with_tree hT2 N4 (fun q hq => List.mem_append_right _ hq)
  subst hz
  generalize hz : own ++ tl2 = z at N5
  clear N4 hT1
  simp only [List.length_cons, List.length_nil, Nat.zero_add]
  k_steps
  unfold Stop
  (rename Fr g _ _ _ => F3); (rename News g _ _ _ => N3)
  try dsimp only at F3 N3 ⊢
  refine' add_element_c (own := own) (i := 1) (r := r1) ?C F3 (Rm.sub hd (by decide)) (Nat.le_of_ble_eq_true rfl) hT2 (news_sub N3 fun q hq => .tail _ (.tail _ (hz ▸ hq))) hD2 rfl (.inr (by rw [← hr1])) (by rw [← hr1]; exact Nat.zero_le _) _ _ ?_
  case C => exact Call.step B1 X1 T1
  clear F3 N3
  intro a3 d3 c3 e3 f3 tl3 h3 tk3 u3 hT3 F4 N4 hD3
  generalize hr2 : rowN a3 d3 c3 e3 f3 (Str.ofString "element") (Str.ofString "b") (Str.ofString "") (Str.ofString "b") (Str.ofString "") (some 1) = r2 at hT3
  replace hT3 := show TreeM w.params _ _ _ [addTo 0 r0 1, addTo 0 r1 2, r2] tl3 from hT3
  obtain ⟨t3, n3, N5⟩ := with_tree hT3 N4 (fun q hq => List.mem_append_right _ hq)
  subst hz
  generalize hz : own ++ tl3 = z at N5
  clear N4 hT2
  try simp only [List.length_cons, List.length_nil, Nat.zero_add, Nat.reduceAdd]
  k_steps
  unfold Stop
  (rename Fr g _ _ _ => F3); (rename News g _ _ _ => N3)
  try dsimp only at F3 N3 ⊢
  refine' add_namespace_c (own := own) (i := 1) (r := addTo 0 r1 2) ?C F3 (Rm.sub hd (by decide)) (Nat.le_of_ble_eq_true rfl) hT3 (news_sub N3 fun q hq => .tail _ (.tail _ (hz ▸ hq))) hD3 rfl (by rw [← hr1]; rfl) (by rw [← hr1]; exact Nat.zero_le _) (fun j hj => by rw [← hr1] at hj; exact nomatch hj) _ _ ?_
  case C => exact Call.step B1 X1 T1
  clear F3 N3
  intro a4 d4 c4 e4 f4 tl4 h4 tk4 u4 hT4 F4 N4 hD4
  generalize hr3 : rowN a4 d4 c4 e4 f4 (Str.ofString "namespace") (Str.ofString "") (Str.ofString "") (Str.ofString "") (Str.ofString "u") (some 1) = r3 at hT4
  replace hT4 := show TreeM w.params _ _ _ [addTo 0 r0 1, addTo 2 (addTo 0 r1 2) 3, r2, r3] tl4 from hT4
  obtain ⟨t4, n4, N5⟩ := with_tree hT4 N4 (fun q hq => List.mem_append_right _ hq)
  subst hz
  generalize hz : own ++ tl4 = z at N5
  clear N4 hT3
  try simp only [List.length_cons, List.length_nil, Nat.zero_add, Nat.reduceAdd]
  k_steps
  unfold Stop
  (rename Fr g _ _ _ => F3); (rename News g _ _ _ => N3)
  try dsimp only at F3 N3 ⊢
  refine' add_namespace_c (own := own) (i := 2) (r := r2) ?C F3 (Rm.sub hd (by decide)) (Nat.le_of_ble_eq_true rfl) hT4 (news_sub N3 fun q hq => .tail _ (.tail _ (hz ▸ hq))) hD4 rfl (by rw [← hr2]) (by rw [← hr2]; exact Nat.zero_le _) (fun j hj => by rw [← hr2] at hj; exact nomatch hj) _ _ ?_
  case C => exact Call.step B1 X1 T1
  clear F3 N3
  intro a5 d5 c5 e5 f5 tl5 h5 tk5 u5 hT5 F4 N4 hD5
  generalize hr4 : rowN a5 d5 c5 e5 f5 (Str.ofString "namespace") (Str.ofString "") (Str.ofString "") (Str.ofString "") (Str.ofString "") (some 2) = r4 at hT5
  replace hT5 := show TreeM w.params _ _ _ [addTo 0 r0 1, addTo 2 (addTo 0 r1 2) 3, addTo 2 r2 4, r3, r4] tl5 from hT5
  clear hT4
  try simp only [List.length_cons, List.length_nil, Nat.zero_add, Nat.reduceAdd]
  subst hz
  generalize hz : own ++ tl5 = z at N4
  have hz5 : ∀ q ∈ tl5, q ∈ z := fun q hq => hz ▸ List.mem_append_right _ hq
  generalize hrs : [addTo 0 r0 1, addTo 2 (addTo 0 r1 2) 3, addTo 2 r2 4, r3, r4] = rs at hT5
  have hzr : rs.length ≤ 1000 := by rw [← hrs]; exact Nat.le_of_ble_eq_true rfl
  have hsm : ∀ r ∈ rs, (r.ch.length ≤ 1000 ∧ r.ats.length ≤ 1000 ∧ r.nss.length ≤ 1000) ∧ ∀ i, i ∈ r.ch ∨ i ∈ r.nss → i < 1000 := by
    subst hrs hr0 hr1 hr2 hr3 hr4
    intro r hr
    simp only [List.mem_cons, List.not_mem_nil, or_false] at hr
    rcases hr with rfl | rfl | rfl | rfl | rfl <;> exact ⟨⟨Nat.le_of_ble_eq_true rfl, Nat.le_of_ble_eq_true rfl, Nat.le_of_ble_eq_true rfl⟩, fun i hi => by simp [addTo] at hi <;> omega⟩
  have hU1 : Up rs 1 [0] := by subst hrs hr0 hr1 hr2 hr3 hr4; exact .step (r := addTo 2 (addTo 0 _ 2) 3) rfl rfl (.top (r := addTo 0 _ 1) rfl rfl)
  have hU2 : Up rs 2 [1, 0] := by subst hrs hr0 hr1 hr2 hr3 hr4; exact .step (r := addTo 2 _ 4) rfl rfl hU1
  have hline : ∀ e ∈ [2, 1, 0], ∃ r, rs[e]? = some r ∧ ∀ j ∈ r.nss, ∃ q, rs[j]? = some q := by
    subst hrs hr0 hr1 hr2 hr3 hr4
    intro e he
    simp only [List.mem_cons, List.not_mem_nil, or_false] at he
    rcases he with rfl | rfl | rfl
    · exact ⟨addTo 2 _ 4, rfl, fun j hj => by simp [addTo] at hj; subst hj; exact ⟨_, rfl⟩⟩
    · exact ⟨addTo 2 (addTo 0 _ 2) 3, rfl, fun j hj => by simp [addTo] at hj; subst hj; exact ⟨_, rfl⟩⟩
    · exact ⟨addTo 0 _ 1, rfl, fun j hj => by simp [addTo] at hj⟩
  have hk1 : ∃ r, rs[1]? = some r ∧ (r.kind == Str.ofString "element") = true := by subst hrs hr0 hr1 hr2 hr3 hr4; exact ⟨_, rfl, by show (Str.ofString "element" == Str.ofString "element") = true; decide +kernel⟩
  have hk2 : ∃ r, rs[2]? = some r ∧ (r.kind == Str.ofString "element") = true := by subst hrs hr0 hr1 hr2 hr3 hr4; exact ⟨_, rfl, by show (Str.ofString "element" == Str.ofString "element") = true; decide +kernel⟩
  have hsc : scL rs [2, 1, 0].reverse xmlD = xmlD := by subst hrs hr0 hr1 hr2 hr3 hr4; rfl
  have hn1 : nisOf rs [1, 0] = [3] := by subst hrs hr0 hr1 hr2 hr3 hr4; rfl
  have hn2 : nisOf rs [2, 1, 0] = [] := by subst hrs hr0 hr1 hr2 hr3 hr4; rfl
  clear hrs hr0 hr1 hr2 hr3 hr4
  k_steps
  unfold Stop
  (rename Fr g _ _ _ => F3); (rename News g _ _ _ => N3)
  try dsimp only at F3 N3 ⊢
  have hTA := hT5.at (fun q hq => (N3 q (hz5 q hq)).1) hzr hsm
  refine useDict F3 N3 (scope_c (Bs.keeps ⟨X1, T1⟩ F3.keep) (Rm.sub hd (by decide)) hTA hU2 (by decide) fun e he => hline e (List.mem_reverse.mp he)) ?_
  clear F3 N3 hTA
  intro d o h6 tk6 hDS lo6 hne6 F4 N4
  rw [hsc] at hDS
  try dsimp only at F4 N4 ⊢
  k_steps
  unfold Stop
  (rename Fr g _ _ _ => F3); (rename News g _ _ _ => N3)
  (rename Obj.IsDictOf _ _ _ => hd7); (rename PyProof.V.FlatPairs _ _ _ => hf7); (rename ((_ : Addr) == sysModules) = false => lo7)
  try dsimp only at F3 N3 lo7 ⊢
  refine dict_same lo6 lo7 (N3 _ (.tail _ (.head _))).1 (N3 _ (.head _)).1 hDS ⟨_, hd7, hf7⟩ ⟨fun _ => rfl, fun p d hp => xml_str hp⟩ (Rm.units0 (k := 4) (Rm.sub hd (by decide))) ?_
  have N4 := news_sub N3 (l' := z) fun q hq => .tail _ (.tail _ hq)
  clear N3 hd7 hf7 lo7 hDS hne6
  k_steps
  unfold Stop
  (rename Fr g _ _ _ => F5); (rename News g _ _ _ => N5)
  try dsimp only at F5 N5 ⊢
  obtain ⟨q1, hq1, hk1⟩ := hk1
  refine useNew F5 N5 (nis_c (Bs.keeps ⟨X1, T1⟩ F5.keep) (Rm.sub hd (by decide)) (hT5.at (fun q hq => (N5 q (hz5 q hq)).1) hzr hsm) hU1 (by decide) hq1 hk1 (fun e he => hline e (.tail _ he))) ?_
  clear F5 N5
  intro l7 vs7 n7 h7 tk7 hI7 _ F6 N6
  rw [hn1] at hI7
  try dsimp only at F6 N6 ⊢
  k_steps
  unfold Stop
  (rename Fr g _ _ _ => F5); (rename News g _ _ _ => N5)
  try dsimp only at F5 N5 ⊢
  refine ke_eq_ints (ys := [.int 3 _]) (ms := [3]) ⟨_, (N5 _ (.tail _ (.head _))).1, rfl, _, rfl⟩ ⟨_, (N5 _ (.head _)).1, rfl, _, rfl⟩ hI7 (.cons _ _ .nil) (Rm.units64 (k := 2) (Rm.sub hd (by decide)) (by decide)) ?_
  rw [show decide (List.map Int.ofNat [3] = [3]) = true from rfl]
  have N6 := news_sub N5 (l' := z) fun q hq => .tail _ (.tail _ hq)
  clear N5
  k_steps
  unfold Stop
  (rename Fr g _ _ _ => F5); (rename News g _ _ _ => N5)
  try dsimp only at F5 N5 ⊢
  obtain ⟨q2, hq2, hk2⟩ := hk2
  refine useNew F5 N5 (nis_c (Bs.keeps ⟨X1, T1⟩ F5.keep) (Rm.sub hd (by decide)) (hT5.at (fun q hq => (N5 q (hz5 q hq)).1) hzr hsm) hU2 (by decide) hq2 hk2 hline) ?_
  clear F5 N5
  intro l8 vs8 n8 h8 tk8 hI8 _ F6 N6
  rw [hn2] at hI8
  try dsimp only at F6 N6 ⊢
  k_steps
  unfold Stop
  (rename Fr g _ _ _ => F5); (rename News g _ _ _ => N5)
  try dsimp only at F5 N5 ⊢
  refine ke_eq_ints (ys := []) (ms := []) ⟨_, (N5 _ (.tail _ (.head _))).1, rfl, _, rfl⟩ ⟨_, (N5 _ (.head _)).1, rfl, _, rfl⟩ hI8 .nil (Rm.units64 (k := 2) (Rm.sub hd (by decide)) (by decide)) ?_
  rw [show decide (List.map Int.ofNat ([] : List Nat) = []) = true from rfl]
  k_steps
  (rename Fr h₀ _ _ _ => F9); (rename News h₀ _ _ _ => N9)
  exact ret _ _ F9 (news_sub N9 fun q hq => .tail _ (.tail _ (hz ▸ List.mem_append_left _ hq)))
theorem told_right_c {hpS : Heap} {gnS : Array GenState} {drS : Drawn} {tkS : Nat} {osS : OsState} {own : List (Addr × Obj)} (C : Call w p loose mean mg mb A A₀ base outer env h₀ L) (F : Fr h₀ L hpS m) (hd : Rm A 10) (N : News h₀ L hpS own) (Q E : Value → Shared → Prop)
    (ret : ∀ h' tk', Fr h₀ L h' m → News h₀ L h' own → Q (.bool true) (Shared.mk h' gnS drS tk' osS)) :
    wpAny (model prg w) A (call (.ref 361) []) Q E (Shared.mk hpS gnS drS tkS osS) :=
  told_right_c0 (s := (Shared.mk hpS gnS drS tkS osS)) C F hd N Q E ret
end
theorem news_cons {h₀ h h' : Heap} {L a : Addr} {m : Str → Option Value} {news : List (Addr × Obj)} {o : Obj} (F : Fr h₀ L h m) (N : News h₀ L h news) (k : Kp h h') (ho : h'.get? a = some o) (hn : h.get? a = none) : (∀ p ∈ news, p.1 ≠ a) ∧ News h₀ L h' ((a, o) :: news) :=
  let ⟨a1, a2⟩ := news_new F N ho hn
  ⟨a1, List.forall_mem_cons.mpr ⟨a2, news_grow N k⟩⟩
/-- the table of in_order's code, told by a ledger -/
noncomputable def TabL (G : Heap) (rest : List (Addr × Obj)) (tab : Array Value) : Prop := tab = #[] ∨ ∃ (c' : Addr) (o : Obj) (vs : Array Value) (t : Tok), tab = lamKey c' ∧ (G.get? c' = some o ∨ (c', o) ∈ rest) ∧ o.data = .fields vs ∧ vs[1]? = some (.str lamQ t)
theorem tabL_ok {G h : Heap} {L : Addr} {m : Str → Option Value} {tab : Array Value} {own rest : List (Addr × Obj)} (F : Fr G L h m) (N : News G L h own) (m56 : ((56 : Nat), tabObj tab) ∈ own) (hs : ∀ q ∈ rest, q ∈ own) (hT : TabL G rest tab) : TabOk h tab := by
  refine ⟨(N _ m56).1, hT.imp id ?_⟩
  rintro ⟨c', o, vs, t, e, ho, hd, hv⟩
  exact ⟨c', e, c', o, vs, t, rfl, ho.elim (F.keep _ _) fun hm => (N _ (hs _ hm)).1, hd, hv⟩
theorem tabOk_L {G h : Heap} {L : Addr} {m : Str → Option Value} {tab : Array Value} {rest : List (Addr × Obj)} (F : Fr G L h m) (N : News G L h ((56, tabObj tab) :: rest)) (hoff : ∀ q ∈ rest, q.1 ≠ 56) (hT : TabOk h tab) :
    ∃ ex, TabL G (rest ++ ex) tab ∧ News G L h ((56, tabObj tab) :: (rest ++ ex)) ∧ (∀ q ∈ rest ++ ex, q.1 ≠ 56) ∧ ∀ q ∈ ex, ∃ vs t, q.2.data = .fields vs ∧ vs[1]? = some (.str lamQ t) := by
  rcases hT.2 with rfl | ⟨c', rfl, hrec⟩
  · exact ⟨[], .inl rfl, by rw [List.append_nil]; exact N, by rw [List.append_nil]; exact hoff, fun q hq => nomatch hq⟩
  · obtain ⟨c2, o, vs, t, e1, e2, e3, e4⟩ := hrec
    obtain rfl : c' = c2 := by cases e1; rfl
    have h56 : c' ≠ 56 := fun q => by
      rw [q, hT.1] at e2
      cases e2; cases e3; cases e4
    cases hg : G.get? c' with
    | some o' =>
      have : o' = o := Option.some.inj ((F.keep _ _ hg).symm.trans e2)
      subst this
      exact ⟨[], .inr ⟨c', o', vs, t, rfl, .inl hg, e3, e4⟩, by rw [List.append_nil]; exact N, by rw [List.append_nil]; exact hoff, fun q hq => nomatch hq⟩
    | none =>
      refine ⟨[(c', o)], .inr ⟨c', o, vs, t, rfl, .inr (List.mem_append_right _ (.head _)), e3, e4⟩, fun q hq => ?_, fun q hq => ?_, fun q hq => by rw [List.mem_singleton.mp hq]; exact ⟨vs, t, e3, e4⟩⟩
      · rcases List.mem_cons.mp hq with rfl | hq
        · exact N _ (.head _)
        rcases List.mem_append.mp hq with hq | hq
        · exact N _ (.tail _ hq)
        rw [List.mem_singleton.mp hq]
        refine ⟨e2, fun e => ?_, hg⟩
        obtain ⟨oL, es, ep, hL, r⟩ := F.ns
        have e' : c' = L := e
        rw [e', hL] at e2
        cases e2
        rw [r.1] at e3; cases e3
      · rcases List.mem_append.mp hq with hq | hq
        · exact hoff q hq
        · rw [List.mem_singleton.mp hq]; exact h56
theorem tab_no {tab : Array Value} {o : Obj} (h : o = tabObj tab) (hc : o.cls ≠ .none) : False := by subst h; exact hc rfl
theorem rowsM_off {tt rest : List (Addr × Obj)} {tab : Array Value} (h : ∀ q ∈ tt, (q.2 = tabObj tab ∧ q.1 = 56) ∨ q ∈ rest) {vs : List Value} {td : TD} (q : Paired (RowsM tt) vs td) : Paired (RowsM rest) vs td :=
  paired_mono (fun _ _ ⟨a, ws, c, e, m, q⟩ => ⟨a, ws, c, e, (h _ m).elim (fun e => (tab_no e.1 (by show Value.type "list" ≠ .none; decide)).elim) id, paired_mono (fun _ _ ⟨t, u1, u2, u3, c, e, m⟩ => ⟨t, u1, u2, u3, c, e, (h _ m).elim (fun e => (tab_no e.1 (by show Value.type "tuple" ≠ .none; decide)).elim) id⟩) q⟩) q
theorem MadeInv.rows_len {rs : List Row} {els : List Nat} {as : List Int} {td : TD} {ot : List Nat} (hM : MadeInv rs els as td ot) : ∀ rows ∈ td, rows.length ≤ 1000 := fun rows hr => by
  obtain ⟨j, hj, rfl⟩ := List.getElem_of_mem hr
  obtain ⟨h1, h2⟩ := hM.tell j _ (List.getElem?_eq_getElem hj)
  have h3 := nodup_len (s := [Str.ofString "", Str.ofString "p", Str.ofString "q"]) h1 fun y hy => by
    obtain ⟨x, hx, rfl⟩ := List.mem_map.mp hy
    rcases (h2 x hx).1 with e | e | e
    · rw [e]; exact .head _
    · rw [e]; exact .tail _ (.head _)
    · rw [e]; exact .tail _ (.tail _ (.head _))
  rw [List.length_map] at h3
  exact Nat.le_trans h3 (Nat.le_of_ble_eq_true rfl)
theorem MadeInv.smalls {rs : List Row} {els : List Nat} {as : List Int} {td : TD} {ot : List Nat} (hM : MadeInv rs els as td ot) (h : rs.length ≤ 40) : ∀ r ∈ rs, (r.ch.length ≤ 1000 ∧ r.ats.length ≤ 1000 ∧ r.nss.length ≤ 1000) ∧ ∀ i, i ∈ r.ch ∨ i ∈ r.nss → i < 1000 := fun r hr => by
  obtain ⟨j, hj, rfl⟩ := List.getElem_of_mem hr
  obtain ⟨_, b, c, d, e⟩ := hM.low j _ (List.getElem?_eq_getElem hj)
  exact ⟨⟨by omega, by omega, by omega⟩, fun i hi => by have := b i hi; omega⟩
theorem ne_same {w : World} {A : Around} {E : Value → Shared → Prop} {s : Shared} {a b : Addr} {xs ys : List Value} {ns : List Int} {Q : Value → Shared → Prop} (ha : s.heap.IsList a xs.toArray) (hb : s.heap.IsList b ys.toArray) (hi : IntsAre xs ns) (hj : IntsAre ys ns) (hu : A.units + 64 < cLine) (h : Q (.bool false) s) :
    wpAny (model prg w) A (compareOp .NotEq (.ref a) (.ref b)) Q E s := ke_ne_ints ha hb hi hj hu (by rw [decide_eq_true rfl]; exact h)
theorem ints_rev {vs : List Value} {ns : List Int} (h : IntsAre vs ns) : IntsAre vs.reverse ns.reverse := by
  induction h with
  | nil => exact .nil
  | cons n t _ ih => rw [List.reverse_cons, List.reverse_cons]; exact ints_app ih (.cons n t .nil)
/-- the places of a list, by its places turned about -/
noncomputable def placeAt (qs : List (Nat × List Int)) (i : Nat) : List Int := ((qs.reverse[i]?).map (·.2)).getD []
theorem placeAt_get {qs : List (Nat × List Int)} {i : Nat} {q : Nat × List Int} (h : qs.reverse[i]? = some q) : placeAt qs i = q.2 := by rw [placeAt, h]; rfl
theorem order_of {qs : List (Nat × List Int)} (pw : qs.Pairwise Rq) : ((qs.map (·.1)).reverse).Nodup ∧ (∀ i j, i < ((qs.map (·.1)).reverse).length → j < ((qs.map (·.1)).reverse).length → lexLt (placeAt qs i) (placeAt qs j) = decide (j < i)) ∧
    ∀ i j, ((qs.map (·.1)).reverse)[i]? = some j → ∃ q ∈ qs, j = q.1 ∧ placeAt qs i = q.2 := by
  have hr : qs.reverse.Pairwise (fun a b => Rq b a) := List.pairwise_reverse.mpr pw
  have hg := List.pairwise_iff_getElem.mp hr
  have lt : ∀ i j, (hi : i < qs.reverse.length) → (hj : j < qs.reverse.length) → i < j → lexLt (placeAt qs j) (placeAt qs i) = true := fun i j hi hj h => by
    rw [placeAt_get (List.getElem?_eq_getElem hi), placeAt_get (List.getElem?_eq_getElem hj)]
    exact (hg i j hi hj h).2
  refine ⟨?_, fun i j hi hj => ?_, fun i j h => ?_⟩
  · rw [← List.map_reverse, List.Nodup, List.pairwise_map]
    exact hr.imp fun h => h.1.symm
  · rw [← List.map_reverse, List.length_map] at hi hj
    rcases Nat.lt_trichotomy i j with h | h | h
    · rw [lexLt_asym (lt i j hi hj h)]
      exact (decide_eq_false (by omega)).symm
    · subst h
      rw [lexLt_irr]
      exact (decide_eq_false (Nat.lt_irrefl _)).symm
    · rw [lt j i hj hi h]
      exact (decide_eq_true h).symm
  · rw [← List.map_reverse, List.getElem?_map] at h
    cases e : qs.reverse[i]? with
    | none => rw [e] at h; cases h
    | some q =>
      rw [e] at h
      exact ⟨q, List.mem_reverse.mp (List.mem_of_getElem? e), (Option.some.inj h).symm, placeAt_get e⟩
theorem first_last {qs : List (Nat × List Int)} (pw : qs.Pairwise Rq) (h2 : 1 < qs.length) : ∃ a b, qs[0]? = some a ∧ qs[qs.length - 1]? = some b ∧ lexLt a.2 b.2 = true ∧ lexLt b.2 a.2 = false := by
  have hg := List.pairwise_iff_getElem.mp pw 0 (qs.length - 1) (by omega) (by omega) (by omega)
  exact ⟨_, _, List.getElem?_eq_getElem (by omega), List.getElem?_eq_getElem (by omega), hg.2, lexLt_asym hg.2⟩
/-- no code's object -/
noncomputable def NoCode (o : Obj) : Prop := ∀ vs t, o.data = .fields vs → vs[1]? ≠ some (.str lamQ t)
section
variable {prog : Program} {w : World} {A : Around} {E : Value → Shared → Prop} {s : Shared} {env : Env} {h₀ : Heap} {x : Str} {body : List Stmt} {Q : Flow → Shared → Prop}
/-- as eachR; the iterator is no code -/
theorem eachR20 {r : Addr} {b₀ : Int} {t₀ u₀ v₀ : Tok} {n : Nat} {m₀ : Str → Option Value} {news : List (Addr × Obj)} (J : Nat → (Str → Option Value) → List (Addr × Obj) → Prop)
    (hh : A.handled = none) (hr : IsRange s.heap r 0 b₀ 1 t₀ u₀ v₀) (hsmall : Builtin.Range.small 0 b₀ 1 = true) (hn : Builtin.Range.rangeSize 0 b₀ 1 = (n : Int)) (F : Fr h₀ env.locals s.heap m₀) (N : News h₀ env.locals s.heap news) (hj : J 0 m₀ news)
    (turn : ∀ I : Addr, ∀ i v m nx it h tk, (i < n ∧ ∃ t, v = .int (i : Int) t) → NoCode it → (∀ p ∈ nx, p.1 ≠ I) → J i m nx → Fr h₀ env.locals h (fun y => if y = x then some v else m y) → News h₀ env.locals h ((I, it) :: nx) →
      wpAny (model prog w) A (execs body env) (UnrPost h₀ env.locals { s with heap := h, toks := tk } I it (J (i + 1)) Q) E { s with heap := h, toks := tk })
    (done : ∀ m nx h tk, J n m nx → Fr h₀ env.locals h m → News h₀ env.locals h nx → Q .next { s with heap := h, toks := tk }) :
    wpAny (model prog w) A (pyIter (.ref r)) (fun it s₂ => LoopAtV prog w A h₀ env x body Q E it s₂) E s := by
  refine wpAny_pyIter_range hr hsmall ?_
  have W : Walks prog w A s.heap.objs.size [s.heap.objs.size] [s.heap.objs.size] n (fun i v => i < n ∧ ∃ t, v = .int (0 + i * 1) t)
      (fun i h => IsRangeIter h s.heap.objs.size (0 + (i : Nat) * 1) ((n : Int) - (i : Nat)) 1) := (Walks.range hh _ 0 1 n).bound
  have hnew := next_is_new F
  refine ⟨_, _, _, n, _, _, m₀, news, J, rfl, W, ?_, ?_, ?_, (by show IsRangeIter _ _ _ _ _; rw [hn]; simpa using Heap.get?_push_size _ rfl), F.push _, (fun p hp => ⟨Heap.get?_push_of_some _ (N p hp).1, (N p hp).2⟩), hj, ?_, ?_⟩
  · intro hm
    exact absurd F.ns.lt ((List.mem_singleton.mp hm) ▸ Nat.lt_irrefl _)
  · intro b hb
    rw [List.mem_singleton.mp hb]
    exact hnew
  · intro p hp hI
    exact absurd (Heap.lt_size (N p hp).1) ((List.mem_singleton.mp hI) ▸ Nat.lt_irrefl _)
  · rintro i v m₁ nx s₁ own ⟨h, tk, rfl⟩ hin ⟨_, t, rfl⟩ hJ hoff hown hget hall hst F₁ N₁
    obtain ⟨it, hit, hno⟩ : ∃ it, h.get? s.heap.objs.size = some it ∧ NoCode it := ⟨_, hst, fun vs t e q => by cases e; simp [rawInt] at q⟩
    have hmemI := hall s.heap.objs.size (List.mem_cons_self ..) hnew _ hit
    have hoff' : ∀ p ∈ nx, p.1 ≠ s.heap.objs.size := fun p hp e => hoff p hp (List.mem_singleton.mpr e)
    have e1 : (0 : Int) + (i : Int) * 1 = (i : Int) := by omega
    rw [e1] at F₁
    have N₂ : News h₀ env.locals h ((s.heap.objs.size, it) :: nx) := fun p hp => by
      rcases List.mem_cons.mp hp with rfl | hp
      · exact N₁ _ (List.mem_append_left _ hmemI)
      · exact N₁ _ (List.mem_append_right _ hp)
    refine wpAny_mono (turn _ i _ m₁ nx it h tk ⟨hin, t, rfl⟩ hno hoff' hJ F₁ N₂) (fun f s₂ p => ?_) fun _ _ e => e
    have fin : UnrEnd h₀ env.locals { s with heap := h, toks := tk } s.heap.objs.size it (J (i + 1)) s₂ → LoopStepU h₀ env.locals [s.heap.objs.size] own (J (i + 1)) { s with heap := h, toks := tk } .next s₂ := by
      rintro ⟨h', tk', m', nx', e, F', N', ho, hJ'⟩
      refine ⟨rfl, h', tk', m', nx', e, F', fun p hp => ?_, fun p hp hI => ho p hp (List.mem_singleton.mp hI), hJ'⟩
      rcases List.mem_append.mp hp with hp | hp
      · have h1 : p.1 = s.heap.objs.size := List.mem_singleton.mp (hown p hp)
        have h2 : h.get? p.1 = some p.2 := hget p hp
        rw [h1, hit] at h2
        rw [show p = (s.heap.objs.size, it) from Prod.ext h1 (Option.some.inj h2).symm]
        exact N' _ (List.mem_cons_self ..)
      · exact N' _ (List.mem_cons_of_mem _ hp)
    cases f with
    | ret v => exact .ret p
    | brk => exact .brk p
    | next => exact .next (fin p)
    | cont => exact .cont (fin p)
  · rintro h' tk m' nx F' N' _ hJ
    exact done m' nx h' tk hJ F' N'
theorem eachR2 {hpS : Heap} {gnS : Array GenState} {drS : Drawn} {tkS : Nat} {osS : OsState} {r : Addr} {b₀ : Int} {t₀ u₀ v₀ : Tok} {n : Nat} {m₀ : Str → Option Value} {news : List (Addr × Obj)} (J : Nat → (Str → Option Value) → List (Addr × Obj) → Prop)
    (hh : A.handled = none) (hr : IsRange hpS r 0 b₀ 1 t₀ u₀ v₀) (hsmall : Builtin.Range.small 0 b₀ 1 = true) (hn : Builtin.Range.rangeSize 0 b₀ 1 = (n : Int)) (F : Fr h₀ env.locals hpS m₀) (N : News h₀ env.locals hpS news) (hj : J 0 m₀ news)
    (turn : ∀ I : Addr, ∀ i v m nx it h tk, (i < n ∧ ∃ t, v = .int (i : Int) t) → NoCode it → (∀ p ∈ nx, p.1 ≠ I) → J i m nx → Fr h₀ env.locals h (fun y => if y = x then some v else m y) → News h₀ env.locals h ((I, it) :: nx) →
      wpAny (model prog w) A (execs body env) (UnrPost h₀ env.locals (Shared.mk h gnS drS tk osS) I it (J (i + 1)) Q) E (Shared.mk h gnS drS tk osS))
    (done : ∀ m nx h tk, J n m nx → Fr h₀ env.locals h m → News h₀ env.locals h nx → Q .next (Shared.mk h gnS drS tk osS)) :
    wpAny (model prog w) A (pyIter (.ref r)) (fun it s₂ => LoopAtV prog w A h₀ env x body Q E it s₂) E (Shared.mk hpS gnS drS tkS osS) :=
  eachR20 (s := (Shared.mk hpS gnS drS tkS osS)) J hh hr hsmall hn F N hj turn done
end
/-- an item that a comprehension leaves out -/
structure CompNo (ok : Bool) (P : Prop) : Prop where
  no : ok = false
  fin : P
section
variable {prog : Program} {w : World} {A : Around} {s : Shared} {h₀ : Heap} {L : Addr} {m : Str → Option Value} {env : Env}
theorem compNone {ct elt : PySem.Expr} {x : Str} {scope : Scope} {cl : List (Str × Addr)} {S : List (Addr × Obj) → Prop} {P : Nat → Value → Prop} {Fin : List Value → List (Addr × Obj) → Prop} {news : List (Addr × Obj)} (fin : Fin [] news)
    (turn : ∀ (i : Nat) (v : Value) (I : Addr) (oI : Obj) (C : Addr) (oC : Obj) (D : Addr) (m₂ : Str → Option Value) (h : Heap) (tk : Nat) (E' : Value → Shared → Prop), P i v → LCg.NsObj oC m₂ → m₂ x = some v → Fr h₀ L h m → News h₀ L h ((I, oI) :: (C, oC) :: (D, LCg.lst []) :: news) → LCg.Off3 I C D news →
      ((@Ne Nat I C) ∧ (@Ne Nat I D) ∧ (@Ne Nat C D)) →
      wpAny (model prog w) A (isTrue ct (compEnvC scope cl C env) (eval ct (compEnvC scope cl C env))) (fun ok s' => CompNo ok (LCg.CompEnd h₀ L m { s with heap := h, toks := tk } I oI C oC D (LCg.lst []) S (fun _ news' => news' = news) Value.none s')) E' { s with heap := h, toks := tk }) :
    ∀ k i, LCt.CompRestT prog w A h₀ L m env ct elt x scope cl s S P Fin k i [] news
  | 0, _ => .zero fin
  | k + 1, i => .succ fun v I oI C oC D m₂ h tk E' hP hns hm F N off hne => wpAny_mono (turn i v I oI C oC D m₂ h tk E' hP hns hm F N off hne) (fun ok s' q => by
      obtain ⟨rfl, h', tk', news', rfl, a, b, c, d, rfl⟩ := q
      simp only [Bool.false_eq_true, if_false]
      exact ⟨h', tk', _, rfl, a, b, c, d, compNone fin turn k (i + 1)⟩) fun _ _ e => e
end
/-- what stands between the turns of the law's loop -/
inductive LwJ (G : Heap) (C El Ar Td Ot : Addr) (oC oE oA oT oO : Obj) (hl : List (Str × Value)) (rest0 : List (Addr × Obj)) : Nat → (Str → Option Value) → List (Addr × Obj) → Prop
  | mk {k : Nat} {m : Str → Option Value} {tab : Array Value} {rest : List (Addr × Obj)} : Has m hl → TabL G rest tab → (∀ q ∈ rest0, q ∈ rest) → (∀ q ∈ rest, q.1 ≠ 56) →
    LwJ G C El Ar Td Ot oC oE oA oT oO hl rest0 k m ((56, tabObj tab) :: (C, oC) :: (El, oE) :: (Ar, oA) :: (Td, oT) :: (Ot, oO) :: rest)
section
variable {w : World} {p : Program} {loose : List Str} {mean : ExcName → Option Value} {mg mb : Str → Option Value} {s : Shared}
theorem rows_x : True := by
  (k_with "call ref" => with_reducible refine stop_ref [73, 33, 323, 342, 354, 59, 66, 361] (by decide) ?_)
  (k_with "compareOp NotEq ref ref" => refine stop_of ?_)
  (k_with "compareOp Eq ref ref" => refine stop_of ?_)
  trivial
theorem law_c {dp un : Nat} {gds : Option (List Code)} {tab : Array Value} {base : Heap} (B : Bs w p loose mean mg mb (hideAll s.heap [56])) (BL : Below ⟨none, dp, some [], gds, un⟩ base [] (hideAll s.heap [56])) (ht0 : tab = #[]) (h56 : s.heap.get? 56 = some (tabObj tab)) (hd : Rm (Around.mk none dp (some []) gds un) 12)
    {la : Addr} {va : List Value} {as : List Int} (hl : LstAt (hideAll s.heap [56]) la va) (hi : IntsAre va as) (hz : as.length ≤ 63) (Q E : Value → Shared → Prop)
    (ret : ∀ h' tk' tab', (∀ b o, b ≠ 56 → s.heap.get? b = some o → h'.get? b = some o) → TabOk h' tab' → Q (.bool true) { s with heap := h', toks := tk' }) :
    wpAny (model prg w) ⟨none, dp, some [], gds, un⟩ (call (.ref 366) [.ref la]) Q E s := by
  refine fill0 ?_; k_fill; intro _
  obtain ⟨hp0, gn, dr, tk0, os⟩ := s
  dsimp only at B BL hl h56 ret
  refine enterC (hid := [(56, tabObj tab)]) B (List.forall_mem_cons.mpr ⟨h56, List.forall_mem_nil _⟩) (st := stmtAt 27) (f := 366) (binds := [(Str.ofString "script", .ref la)]) (by k_is) rfl (by k_is) hd.room (by rfl) (by rfl) (by decide +kernel) ?_
  intro L h₁ tk cells hL F N Y hlt
  have X := B.X
  have T' := B.T
  k_cells Y
  rename_i oC dC
  have hdC : oC.data = .cell none := dC
  clear dC
  simp only [List.cons_append, List.nil_append] at N
  k_lt hlt
  have dn : ∀ b o, b ≠ 56 → hp0.get? b = some o → (hideAll hp0 [56]).get? b = some o := fun b o hb e => hideAll_get _ e fun hm => hb (List.mem_singleton.mp hm)
  simp only [List.map_cons, List.map_nil] at F N
  dsimp only at F N ⊢
  generalize hG : hideAll hp0 [56] = G at *
  k_steps
  unfold Stop
  (rename Fr G _ _ _ => F1); (rename News G _ _ _ => N1)
  try dsimp only at F1 N1 ⊢
  refine pool_c (Bs.keeps ⟨X, T'⟩ F1.keep) (Rm.sub hd (by decide)) (LstAt.keeps hl F1.keep) hi hz _ _ ?_
  rintro v h2 tk2 k2 ⟨S, x, y, t1, t2, n, rfl, hS, hx, hy, hn⟩
  obtain ⟨neS, N2⟩ := news_cons F1 N1 k2 hS hn
  have F2 := fr_grow F1 k2
  have ns1 : NeA (L + 1) S := neS _ (.head _)
  have ns2 : NeA 56 S := neS _ (.tail _ (.head _))
  clear neS
  clear F1 N1 k2 hS hn
  try dsimp only at F2 N2 ⊢
  k_steps
  unfold Stop
  (rename Fr G _ _ _ => F3); (rename News G _ _ _ => N3); (rename (Obj.data _ = _) => hdT)
  rename_i T dT _ lA lB _ _ _ _ _ _ tq R _ lC _ _ _ _ _ _ Dt _ lD _ _ _ oC2
  try dsimp only at F3 N3 ⊢
  have lT : @LT.lt Nat _ (L + 1) T ∧ @LT.lt Nat _ 56 T ∧ @LT.lt Nat _ S T := ⟨Nat.lt_trans lA.2.1 lB, Nat.lt_trans lA.2.2 lB, Nat.lt_trans lA.1 lB⟩
  have hD0 : Disj [(L + 1, oC2), (56, tabObj tab)] [(R, W.listOf #[] 0), (T, instObj 312 dT), (dT, dictOf [de w.params "rows" (tq + 1) (.ref R)] 1)] :=
    List.forall_mem_cons.mpr ⟨List.forall_mem_cons.mpr ⟨Nat.ne_of_gt lC.2.2.2.1, List.forall_mem_cons.mpr ⟨Nat.ne_of_gt lT.1, List.forall_mem_cons.mpr ⟨Nat.ne_of_gt lA.2.1, List.forall_mem_nil _⟩⟩⟩,
      List.forall_mem_cons.mpr ⟨List.forall_mem_cons.mpr ⟨Nat.ne_of_gt lC.2.2.2.2, List.forall_mem_cons.mpr ⟨Nat.ne_of_gt lT.2.1, List.forall_mem_cons.mpr ⟨Nat.ne_of_gt lA.2.2, List.forall_mem_nil _⟩⟩⟩, List.forall_mem_nil _⟩⟩
  have hS0 : ∀ q ∈ [(L + 1, oC2), (56, tabObj tab)] ++ [(R, W.listOf #[] 0), (T, instObj 312 dT), (dT, dictOf [de w.params "rows" (tq + 1) (.ref R)] 1)], q.1 ≠ S :=
    List.forall_mem_cons.mpr ⟨ns1, List.forall_mem_cons.mpr ⟨ns2, List.forall_mem_cons.mpr ⟨Nat.ne_of_gt lC.2.2.1, List.forall_mem_cons.mpr ⟨Nat.ne_of_gt lT.2.2, List.forall_mem_cons.mpr ⟨Nat.ne_of_gt lA.1, List.forall_mem_nil _⟩⟩⟩⟩⟩
  have N4 : News G L _ ((S, srcO x y t1 t2 n) :: ([(L + 1, oC2), (56, tabObj tab)] ++ [(R, W.listOf #[] 0), (T, instObj 312 dT), (dT, dictOf [de w.params "rows" (tq + 1) (.ref R)] 1)])) := news_sub N3 (by simp only [List.cons_append, List.nil_append]; walk_at "subT")
  refine' law_made_c ?C F3 (Rm.sub hd (by decide)) tree_start N4 hD0 hS0 hx hy _ _ ?_
  case C => exact Call.step BL X T'
  clear F3 N3 N4 hD0 hS0 lA lB lC lD lT ns1 ns2
  intro Lm El Ar Td Ot c n1 n2 n3 n4 ve va' vd vo els as' td ot rs tt tl h3 tk3 hve hva hvd hvo hT hM h5 h40 ho40 hown hDj oE oA oT oO F4 N4
  have mC : (L + 1, oC2) ∈ tt := hown _ (.head _)
  have m56 : ((56 : Nat), tabObj tab) ∈ tt := hown _ (.tail _ (.head _))
  have n1' : NeA 56 (L + 1) := by have := hG; show (56 : Nat) ≠ L + 1; omega
  have n2' : NeA 56 El := oE _ (List.mem_append_left _ m56)
  have n3' : NeA 56 Ar := oA _ (List.mem_append_left _ m56)
  have n4' : NeA 56 Td := oT _ (List.mem_append_left _ m56)
  have n5' : NeA 56 Ot := oO _ (List.mem_append_left _ m56)
  have hr1 : ∀ q ∈ tl, q ∈ offA 56 (tt ++ tl) := fun q hq => mem_offA.mpr ⟨List.mem_append_right _ hq, hDj _ m56 q hq⟩
  have N5 : News G L h3 ((Lm, W.listOf #[.ref El, .ref Ar, .ref Td, .ref Ot] c) :: (56, tabObj tab) :: (L + 1, oC2) :: (El, W.listOf ve.toArray n1) :: (Ar, W.listOf va'.toArray n2) :: (Td, W.listOf vd.toArray n3) :: (Ot, W.listOf vo.toArray n4) :: offA 56 (tt ++ tl)) := news_sub N4 fun q hq => by
    rcases List.mem_cons.mp hq with rfl | hq
    · exact .head _
    rcases List.mem_cons.mp hq with rfl | hq
    · exact .tail _ (.tail _ (.tail _ (.tail _ (.tail _ (List.mem_append_left _ m56)))))
    rcases List.mem_cons.mp hq with rfl | hq
    · exact .tail _ (.tail _ (.tail _ (.tail _ (.tail _ (List.mem_append_left _ mC)))))
    rcases List.mem_cons.mp hq with rfl | hq
    · exact .tail _ (.head _)
    rcases List.mem_cons.mp hq with rfl | hq
    · exact .tail _ (.tail _ (.head _))
    rcases List.mem_cons.mp hq with rfl | hq
    · exact .tail _ (.tail _ (.tail _ (.head _)))
    rcases List.mem_cons.mp hq with rfl | hq
    · exact .tail _ (.tail _ (.tail _ (.tail _ (.head _))))
    · exact .tail _ (.tail _ (.tail _ (.tail _ (.tail _ (mem_offA.mp hq).1))))
  have hr2 : ∀ q ∈ tt, q.1 ≠ 56 → q ∈ offA 56 (tt ++ tl) := fun q hq h => mem_offA.mpr ⟨List.mem_append_left _ hq, h⟩
  have hr3 : ∀ q ∈ offA 56 (tt ++ tl), q.1 ≠ 56 := offA_ne
  have htold : ∀ q ∈ tt, (q.2 = tabObj tab ∧ q.1 = 56) ∨ q ∈ offA 56 (tt ++ tl) := fun q hq => by
    by_cases h : q.1 = 56
    · have := news_inj N4 q (.tail _ (.tail _ (.tail _ (.tail _ (.tail _ (List.mem_append_left _ hq)))))) _ (.tail _ (.tail _ (.tail _ (.tail _ (.tail _ (List.mem_append_left _ m56)))))) h
      exact .inl ⟨this, h⟩
    · exact .inr (hr2 q hq h)
  clear N4 hown oE oA oT oO hDj
  generalize hrest : offA 56 (tt ++ tl) = rest0 at N5 hr1 hr2 hr3 htold
  have hvd2 := rowsM_off htold hvd
  have hsm := hM.smalls h40
  have hz40 : rs.length ≤ 1000 := by omega
  have hrw := hM.rows_len
  have hal : as'.length ≤ 1000 := by have := hM.la; omega
  have htl : td.length ≤ 1000 := by have := hM.lt; omega
  clear htold hr2 hvd hrest m56 mC
  have hvel : ve.length = els.length := ids_size hve
  k_steps
  unfold Stop
  (rename Fr G _ _ _ => F6)
  refine For_invVF F6 rfl rfl ?_
  k_steps
  unfold Stop
  (rename Fr G _ _ _ => F7); (rename News G _ _ _ => N7)
  try dsimp only at F7 N7 ⊢
  refine range1_rows F7 N7 ?_
  intro h4 tk4 w1 w2 w3 hRg F8 N8 _
  k_steps
  unfold Stop
  rw [List.size_toArray] at hRg
  obtain ⟨rg1, rg2⟩ := rangeN ve.length (by omega)
  have N9 := news_sub N8 (l' := (56, tabObj tab) :: (L + 1, oC2) :: (El, W.listOf ve.toArray n1) :: (Ar, W.listOf va'.toArray n2) :: (Td, W.listOf vd.toArray n3) :: (Ot, W.listOf vo.toArray n4) :: rest0) (by walk_at "subT")
  refine eachR2 (LwJ G (L + 1) El Ar Td Ot oC2 (W.listOf ve.toArray n1) (W.listOf va'.toArray n2) (W.listOf vd.toArray n3) (W.listOf vo.toArray n4) [(Str.ofString "elements", .ref El), (Str.ofString "arounds", .ref Ar), (Str.ofString "told", .ref Td), (Str.ofString "others", .ref Ot)] rest0) (n := ve.length) rfl hRg rg1 rg2 F8 N9 (.mk ⟨rfl, rfl, rfl, rfl, trivial⟩ (.inl ht0) (fun q hq => hq) hr3) ?turn ?done
  case done =>
    clear F7 N7 F8 N8 N9 hRg
    intro m nx h tk5 hJ F2 N2
    cases hJ with
    | mk hm htab hr0 hr56 =>
    rename_i tab2 rest
    have F3 := fr_has F2 hm
    dsimp only [setL, envOfC] at F3
    dsimp only [envOfC] at N2
    clear F2
    have hsz : vo.toArray.size ≤ sizeLine := size_of (by rw [ids_size hvo]; omega)
    have hTt : ∀ q ∈ tl, q ∈ rest := fun q hq => hr0 q (hr1 q hq)
    k_steps
    unfold Stop
    (rename Fr G _ _ _ => F5); (rename News G _ _ _ => N5)
    try dsimp only at F5 N5 ⊢
    refine LCt.ListComp_T (F₀ := F5) (cl := [(Str.ofString "tree", L + 1)]) (by with_unfolding_all rfl) (by decide) (by rfl) (by decide) (by rfl) ?_
    refine wpAny_Name (wpAny_loadName_local rfl rfl F5.ns (v := .ref Ot) rfl ?_)
    refine LCt.CompSrcT.ledger rfl F5 N5 (ax := Ot) (its := vo.toArray) (k := n4) (.tail _ (.tail _ (.tail _ (.tail _ (.tail _ (.head _)))))) hsz fun g => ?_
    refine compNone ?fin ?turn9 _ _
    case turn9 =>
      clear F5 N5
      intro i v I oI C oC D m₂ h9 tk9 E' hP hNs hm2 F N off hne
      obtain ⟨o, u, ho, rfl⟩ := ints_getN hvo (show vo[i]? = some v by simpa using hP)
      obtain ⟨q, hq, hqk⟩ := hM.oth o (List.mem_of_getElem? ho)
      k_steps
      unfold Stop
      (rename Fr G _ _ _ => F7); (rename News G _ _ _ => N7)
      try dsimp only at F7 N7 ⊢
      refine useNew F7 N7 (nis_other_c (Bs.keeps ⟨X, T'⟩ F7.keep) (Rm.sub hd (by decide)) (hT.at (fun q hq => (N7 q (.tail _ (.tail _ (.tail _ (.tail _ (.tail _ (.tail _ (.tail _ (.tail _ (.tail _ (hTt q hq))))))))))).1) hz40 hsm) hq hqk) ?_
      clear F7 N7
      intro l9 vs9 n9 h10 tk10 hI9 ne9 F8 N8
      try dsimp only at F8 N8 ⊢
      k_steps
      unfold Stop
      (rename Fr G _ _ _ => F7); (rename News G _ _ _ => N7)
      try dsimp only at F7 N7 ⊢
      refine ne_same (ns := []) (ys := []) ⟨_, (N7 _ (.tail _ (.head _))).1, rfl, _, rfl⟩ ⟨_, (N7 _ (.head _)).1, rfl, _, rfl⟩ hI9 .nil (Rm.units64 (k := 2) (Rm.sub hd (by decide)) (by decide)) ?_
      k_steps
      exact ⟨rfl, LCg.CompEnd.intro F7 N7 _ (fun p hp => .tail _ (.tail _ hp)) off (.inr ⟨_, .tail _ (.tail _ (.tail _ (.tail _ (.tail _ (.head _))))), rfl, _, rfl⟩) rfl⟩
    case fin =>
      clear F5 N5
      intro D9 h9 tk9 F N _
      try dsimp only at F N ⊢
      k_steps
      unfold Stop
      (rename Fr G _ _ _ => F7); (rename News G _ _ _ => N7)
      try dsimp only at F7 N7 ⊢
      refine ke_eq_ints (xs := []) (ys := []) (ns := []) (ms := []) ⟨_, (N7 _ (.tail _ (.head _))).1, rfl, _, rfl⟩ ⟨_, (N7 _ (.head _)).1, rfl, _, rfl⟩ .nil .nil (Rm.units64 (k := 2) (Rm.sub hd (by decide)) (by decide)) ?_
      rw [show decide (([] : List Int) = []) = true from rfl]
      have N8 := news_sub N7 (l' := (56, tabObj tab2) :: rest) fun q hq => by
        rcases List.mem_cons.mp hq with rfl | hq
        · exact .tail _ (.tail _ (.head _))
        · exact .tail _ (.tail _ (.tail _ (.tail _ (.tail _ (.tail _ (.tail _ (.tail _ hq)))))))
      clear N7 N F
      k_steps
      unfold Stop
      (rename Fr G _ _ _ => F9); (rename News G _ _ _ => N9)
      try dsimp only at F9 N9 ⊢
      refine' told_right_c ?C F9 (Rm.sub hd (by decide)) N9 _ _ ?_
      case C => exact Call.step BL X T'
      clear F9 N9
      intro h10 tk10 F10 N10
      try dsimp only at F10 N10 ⊢
      k_steps
      (rename Fr G _ _ _ => F11); (rename News G _ _ _ => N11)
      exact ret _ _ tab2 (fun b o hb e => F11.keep _ _ (dn b o hb e)) (tabL_ok F11 N11 (.head _) (fun q hq => .tail _ hq) htab)
  case turn =>
  clear F7 N7 F8 N8 N9 hRg
  intro I k v m nx it h tk5 hv hno hoff hJ F2 N2
  obtain ⟨hk, tk6, rfl⟩ := hv
  cases hJ with
  | mk hm htab hr0 hr56 =>
  rename_i tab2 rest
  have F3 := fr_has1 F2 hm
  dsimp only [setL, envOfC] at F3
  dsimp only [envOfC] at N2
  clear F2
  generalize hPo : UnrPost _ _ _ _ _ _ _ = Po
  obtain ⟨e, he⟩ : ∃ e, els[k]? = some e := ⟨_, List.getElem?_eq_getElem (by omega)⟩
  obtain ⟨l, anc, qs, LA⟩ := hM.all_of (by omega) he
  obtain ⟨re, hre, hke⟩ : ∃ r, rs[e]? = some r ∧ (r.kind == Str.ofString "element") = true := by
    obtain ⟨r, _, _, _, _, a1, a2, _⟩ := hM.el k e he
    exact ⟨r, a1, by rw [a2]; decide +kernel⟩
  have e9 : (els.map Int.ofNat).getD (k : Int).toNat 0 = (e : Int) := by
    rw [List.getD_eq_getElem?_getD, List.getElem?_map, Int.toNat_natCast, he]; rfl
  have hnis := LA.nis
  have hsame := LA.same
  have hnodes := LA.nodes
  generalize hdu : dueGo td l.reverse ([], xmlD) = due at hnis hsame hnodes
  have hul3 : due.1.length ≤ 3 := by rw [← hnodes, List.length_map]; exact LA.three
  k_steps
  unfold Stop
  (rename Fr G _ _ _ => F4); (rename News G _ _ _ => N4)
  try dsimp only at F4 N4 ⊢
  have hin : ∀ q ∈ rest, q ∈ (I, it) :: (56, tabObj tab2) :: (L + 1, oC2) :: (El, W.listOf ve.toArray n1) :: (Ar, W.listOf va'.toArray n2) :: (Td, W.listOf vd.toArray n3) :: (Ot, W.listOf vo.toArray n4) :: rest := fun q hq => .tail _ (.tail _ (.tail _ (.tail _ (.tail _ (.tail _ (.tail _ hq))))))
  refine useDue F4 N4 (law_due_c (Bs.keeps ⟨X, T'⟩ F4.keep) (Rm.sub hd (by decide)) ⟨n2, (N4 _ (.tail _ (.tail _ (.tail _ (.tail _ (.head _)))))).1⟩ hva hal ⟨vd, ⟨n3, (N4 _ (.tail _ (.tail _ (.tail _ (.tail _ (.tail _ (.head _))))))).1⟩, told_at (fun q hq => (N4 q (hin q (hr0 q hq))).1) hvd2⟩ htl LA.chain LA.len LA.low hrw) ?_
  rw [hdu]
  clear F4 N4 hin
  intro t9 ln dd n9 n10 us o9 h5' tk7 hus hDS lo9 ne1 ne2 ne3 F4 N4
  have hul : us.length ≤ 3 := by rw [ids_size hus]; exact hul3
  have nl56 : NeA 56 ln := ne2 (56, tabObj tab2) (.tail _ (.head _))
  have nd56 : NeA 56 dd := ne3 (56, tabObj tab2) (.tail _ (.head _))
  clear ne1 ne2 ne3
  try dsimp only at F4 N4 ⊢
  k_steps
  unfold Stop
  (rename Fr G _ _ _ => F5); (rename News G _ _ _ => N5)
  try dsimp only at F5 N5 ⊢
  rw [e9]
  have N6 := news_sub N5 (l' := (ln, W.listOf us.toArray n10) :: (dd, o9) :: (I, it) :: (56, tabObj tab2) :: (L + 1, oC2) :: (El, W.listOf ve.toArray n1) :: ((Ar, W.listOf va'.toArray n2) :: (Td, W.listOf vd.toArray n3) :: (Ot, W.listOf vo.toArray n4) :: rest)) fun q hq => .tail _ hq
  clear N5
  generalize hr2 : (Ar, W.listOf va'.toArray n2) :: (Td, W.listOf vd.toArray n3) :: (Ot, W.listOf vo.toArray n4) :: rest = rest2 at N6
  have hin : ∀ q ∈ rest, q ∈ rest2 := fun q hq => by rw [← hr2]; exact .tail _ (.tail _ (.tail _ hq))
  have hTt : ∀ q ∈ tl, q ∈ rest2 := fun q hq => hin q (hr0 q (hr1 q hq))
  have hr256 : ∀ q ∈ rest2, q.1 ≠ 56 := by rw [← hr2]; exact List.forall_mem_cons.mpr ⟨n3'.r, List.forall_mem_cons.mpr ⟨n4'.r, List.forall_mem_cons.mpr ⟨n5'.r, hr56⟩⟩⟩
  refine useNew F5 N6 (nis_c (Bs.keeps ⟨X, T'⟩ F5.keep) (Rm.sub hd (by decide)) (hT.at (fun q hq => (N6 q (.tail _ (.tail _ (.tail _ (.tail _ (.tail _ (.tail _ (hTt q hq)))))))).1) hz40 hsm) LA.up LA.ancl hre hke LA.rows) ?_
  clear F5 N6
  intro l9 vs9 n11 h6 tk8 hI9 ne9 F4 N4
  rw [hnis] at hI9
  clear ne9
  try dsimp only at F4 N4 ⊢
  k_steps
  unfold Stop
  (rename Fr G _ _ _ => F5); (rename News G _ _ _ => N5)
  try dsimp only at F5 N5 ⊢
  refine ne_same ⟨_, (N5 _ (.head _)).1, rfl, _, rfl⟩ ⟨_, (N5 _ (.tail _ (.head _))).1, rfl, _, rfl⟩ hI9 hus (Rm.units64 (k := 2) (Rm.sub hd (by decide)) (by decide)) ?_
  have N6 := news_sub N5 (l' := (ln, W.listOf us.toArray n10) :: (dd, o9) :: (I, it) :: (56, tabObj tab2) :: (L + 1, oC2) :: (El, W.listOf ve.toArray n1) :: rest2) fun q hq => .tail _ hq
  clear N5 hI9
  k_steps
  unfold Stop
  (rename Fr G _ _ _ => F7); (rename News G _ _ _ => N7)
  try dsimp only at F7 N7 ⊢
  rw [e9]
  refine useDict F7 N7 (scope_c (Bs.keeps ⟨X, T'⟩ F7.keep) (Rm.sub hd (by decide)) (hT.at (fun q hq => (N7 q (.tail _ (.tail _ (.tail _ (.tail _ (.tail _ (.tail _ (hTt q hq)))))))).1) hz40 hsm) LA.up LA.ancl fun x hx => LA.rows x (List.mem_reverse.mp hx)) ?_
  clear F7 N7
  intro d8 o8 h7 tk9 hDS8 lo8 ne8 F4 N4
  clear ne8
  try dsimp only at F4 N4 ⊢
  k_steps
  unfold Stop
  (rename Fr G _ _ _ => F5); (rename News G _ _ _ => N5)
  try dsimp only at F5 N5 ⊢
  refine dict_same lo8 lo9 (N5 _ (.head _)).1 (N5 _ (.tail _ (.tail _ (.head _)))).1 hDS8 hDS hsame (Rm.units0 (k := 4) (Rm.sub hd (by decide))) ?_
  have N6 := news_sub N5 (l' := (ln, W.listOf us.toArray n10) :: (dd, o9) :: (I, it) :: (56, tabObj tab2) :: (L + 1, oC2) :: (El, W.listOf ve.toArray n1) :: rest2) fun q hq => .tail _ hq
  clear N5 hDS8 lo8
  k_steps
  unfold Stop
  (rename Fr G _ _ _ => F7); (rename News G _ _ _ => N7)
  rename_i Dr _ lDr
  try dsimp only at F7 N7 ⊢
  obtain ⟨ho1, ho2, ho3⟩ := order_of LA.pw
  rw [hnodes] at ho1 ho2 ho3
  have hR : IntsAre us.reverse ((due.1.reverse).map Int.ofNat) := by rw [List.map_reverse]; exact ints_rev hus
  have nI56 : NeA 56 I := hoff (56, tabObj tab2) (.head _)
  have N8 : News G L _ ((56, tabObj tab2) :: (Dr, W.listOf us.reverse.toArray 0) :: (ln, W.listOf us.toArray n10) :: (dd, o9) :: (I, it) :: (L + 1, oC2) :: (El, W.listOf ve.toArray n1) :: rest2) := news_sub N7 (by walk_at "subT")
  clear N7
  have hoff56 : ∀ q ∈ (Dr, W.listOf us.reverse.toArray 0) :: (ln, W.listOf us.toArray n10) :: (dd, o9) :: (I, it) :: (L + 1, oC2) :: (El, W.listOf ve.toArray n1) :: rest2, q.1 ≠ 56 :=
    List.forall_mem_cons.mpr ⟨Nat.ne_of_gt lDr.2.2.2.1, List.forall_mem_cons.mpr ⟨nl56.r, List.forall_mem_cons.mpr ⟨nd56.r, List.forall_mem_cons.mpr ⟨nI56.r, List.forall_mem_cons.mpr ⟨n1'.r, List.forall_mem_cons.mpr ⟨n2'.r, hr256⟩⟩⟩⟩⟩⟩
  have kp := kp_hideH (as := [56]) F7 N8 (fun a ha => by obtain rfl := List.mem_singleton.mp ha; exact ⟨_, .head _⟩)
  have gt := fun q (hq : q ∈ (Dr, W.listOf us.reverse.toArray 0) :: (ln, W.listOf us.toArray n10) :: (dd, o9) :: (I, it) :: (L + 1, oC2) :: (El, W.listOf ve.toArray n1) :: rest2) => hideAll_get [56] (N8 _ (.tail _ hq)).1 fun hm => hoff56 q hq (List.mem_singleton.mp hm)
  refine in_order_c (tab := tab2) (ps := placeAt qs) (ns := due.1.reverse) (Bs.keeps ⟨X, T'⟩ kp) (tabL_ok F7 N8 (.head _) (fun q hq => .tail _ (.tail _ (.tail _ (.tail _ (.tail _ (.tail _ (.tail _ (hin q hq)))))))) htab) (Rm.sub hd (by decide)) (hT.at (fun q hq => gt q (.tail _ (.tail _ (.tail _ (.tail _ (.tail _ (.tail _ (hTt q hq)))))))) hz40 hsm) ⟨0, gt (Dr, W.listOf us.reverse.toArray 0) (.head _)⟩ hR ho1 (by rw [List.length_reverse]; exact hul3) (fun i j h => by
      obtain ⟨q, hq, e1, e2⟩ := ho3 i j h
      rw [e2, e1]; exact LA.place q hq) ho2 _ _ ?_
  clear kp gt ho1 ho2 ho3 hR
  rintro v9 h8 tk10 tab3 k8 hok ⟨lr, rfl, ⟨vs10, ⟨n12, hlr⟩, hi10⟩, hnone⟩
  rw [List.reverse_reverse] at hi10
  obtain ⟨F9, N9⟩ := back_frameH F7 N8 hoff56 k8 hok.1
  obtain ⟨_, a2⟩ := news_new F7 N8 hlr hnone
  clear F7 N8 hoff56 k8 hnone hlr
  obtain ⟨ex, htab3, N11, hex1, hex2⟩ := tabOk_L (rest := rest) F9 (news_sub N9 fun q hq => by
    rcases List.mem_cons.mp hq with rfl | hq
    · exact .head _
    · exact .tail _ (.tail _ (.tail _ (.tail _ (.tail _ (.tail _ (.tail _ (hin q hq)))))))) hr56 hok
  have hexI : ∀ q ∈ ex, q.1 ≠ I := fun q hq e => by
    obtain ⟨vs, t, d1, d2⟩ := hex2 q hq
    have g1 := (N11 q (.tail _ (List.mem_append_right _ hq))).1
    have g2 := (N9 (I, it) (.tail _ (.tail _ (.tail _ (.tail _ (.head _)))))).1
    rw [e] at g1
    have e2 : q.2 = it := Option.some.inj (g1.symm.trans g2)
    rw [e2] at d1
    exact hno vs t d1 d2
  have hrI : ∀ q ∈ rest, q.1 ≠ I := fun q hq => hoff q (.tail _ (.tail _ (.tail _ (.tail _ (.tail _ (.tail _ hq))))))
  have hr3I : ∀ q ∈ rest ++ ex, q.1 ≠ I := fun q hq => (List.mem_append.mp hq).elim (hrI q) (hexI q)
  have hr30 : ∀ q ∈ rest0, q ∈ rest ++ ex := fun q hq => List.mem_append_left _ (hr0 q hq)
  have N12 : News G L h8 ((lr, W.listOf vs10.toArray n12) :: (ln, W.listOf us.toArray n10) :: (I, it) :: (56, tabObj tab3) :: (L + 1, oC2) :: (El, W.listOf ve.toArray n1) :: (Ar, W.listOf va'.toArray n2) :: (Td, W.listOf vd.toArray n3) :: (Ot, W.listOf vo.toArray n4) :: (rest ++ ex)) := fun q hq => by
    rcases List.mem_cons.mp hq with rfl | hq
    · exact a2
    rcases List.mem_cons.mp hq with rfl | hq
    · exact N9 _ (.tail _ (.tail _ (.head _)))
    rcases List.mem_cons.mp hq with rfl | hq
    · exact N9 _ (.tail _ (.tail _ (.tail _ (.tail _ (.head _)))))
    rcases List.mem_cons.mp hq with rfl | hq
    · exact N9 _ (.head _)
    rcases List.mem_cons.mp hq with rfl | hq
    · exact N9 _ (.tail _ (.tail _ (.tail _ (.tail _ (.tail _ (.head _))))))
    rcases List.mem_cons.mp hq with rfl | hq
    · exact N9 _ (.tail _ (.tail _ (.tail _ (.tail _ (.tail _ (.tail _ (.head _)))))))
    rcases List.mem_cons.mp hq with rfl | hq
    · exact N9 _ (.tail _ (.tail _ (.tail _ (.tail _ (.tail _ (.tail _ (.tail _ (by rw [← hr2]; exact .head _))))))))
    rcases List.mem_cons.mp hq with rfl | hq
    · exact N9 _ (.tail _ (.tail _ (.tail _ (.tail _ (.tail _ (.tail _ (.tail _ (by rw [← hr2]; exact .tail _ (.head _)))))))))
    rcases List.mem_cons.mp hq with rfl | hq
    · exact N9 _ (.tail _ (.tail _ (.tail _ (.tail _ (.tail _ (.tail _ (.tail _ (by rw [← hr2]; exact .tail _ (.tail _ (.head _))))))))))
    · exact N11 _ (.tail _ hq)
  clear N9 N11 a2 hok hex2
  generalize hr3 : rest ++ ex = rest3 at N12 htab3 hex1 hr3I hr30
  try dsimp only at F9 N12 ⊢
  k_steps
  unfold Stop
  (rename Fr G _ _ _ => F5); (rename News G _ _ _ => N5)
  try dsimp only at F5 N5 ⊢
  refine ne_same ⟨_, (N5 _ (.head _)).1, rfl, _, rfl⟩ ⟨_, (N5 _ (.tail _ (.head _))).1, rfl, _, rfl⟩ hi10 hus (Rm.units64 (k := 2) (Rm.sub hd (by decide)) (by decide)) ?_
  have N6 := news_sub N5 (l' := (ln, W.listOf us.toArray n10) :: (I, it) :: (56, tabObj tab3) :: (L + 1, oC2) :: (El, W.listOf ve.toArray n1) :: (Ar, W.listOf va'.toArray n2) :: (Td, W.listOf vd.toArray n3) :: (Ot, W.listOf vo.toArray n4) :: rest3) fun q hq => .tail _ hq
  clear N5 hi10
  have fin : ∀ {m9 : Str → Option Value} {h9 : Heap} {tk9 : Tok} {all : List (Addr × Obj)}, Has m9 [(Str.ofString "elements", .ref El), (Str.ofString "arounds", .ref Ar), (Str.ofString "told", .ref Td), (Str.ofString "others", .ref Ot)] → Fr G L h9 m9 → News G L h9 all →
      (∀ q ∈ (I, it) :: (56, tabObj tab3) :: (L + 1, oC2) :: (El, W.listOf ve.toArray n1) :: (Ar, W.listOf va'.toArray n2) :: (Td, W.listOf vd.toArray n3) :: (Ot, W.listOf vo.toArray n4) :: rest3, q ∈ all) →
      Po .next { heap := h9, gens := gn, drawn := dr, toks := tk9, os := os } := fun hm9 F N hs => by
    rw [← hPo]
    show UnrEnd _ _ _ _ _ _ _
    have oi : ∀ q ∈ (56, tabObj tab3) :: (L + 1, oC2) :: (El, W.listOf ve.toArray n1) :: (Ar, W.listOf va'.toArray n2) :: (Td, W.listOf vd.toArray n3) :: (Ot, W.listOf vo.toArray n4) :: rest3, q.1 ≠ I :=
      List.forall_mem_cons.mpr ⟨nI56, List.forall_mem_cons.mpr ⟨hoff (L + 1, oC2) (.tail _ (.head _)), List.forall_mem_cons.mpr ⟨hoff (El, W.listOf ve.toArray n1) (.tail _ (.tail _ (.head _))), List.forall_mem_cons.mpr ⟨hoff (Ar, W.listOf va'.toArray n2) (.tail _ (.tail _ (.tail _ (.head _)))), List.forall_mem_cons.mpr ⟨hoff (Td, W.listOf vd.toArray n3) (.tail _ (.tail _ (.tail _ (.tail _ (.head _))))), List.forall_mem_cons.mpr ⟨hoff (Ot, W.listOf vo.toArray n4) (.tail _ (.tail _ (.tail _ (.tail _ (.tail _ (.head _)))))), hr3I⟩⟩⟩⟩⟩⟩
    exact UnrEnd.intro F N _ hs oi (.mk hm9 htab3 hr30 hex1)
  by_cases h2 : 1 < us.length
  · have hc : decide (((us.toArray.size : Nat) : Int) > 1) = true := decide_eq_true (by rw [List.size_toArray]; omega)
    have hql : qs.length = us.length := by rw [ids_size hus, ← hnodes, List.length_map]
    obtain ⟨qa, qb, hqa, hqb, hl1, hl2⟩ := first_last LA.pw (by omega)
    have pa := LA.place qa (List.mem_of_getElem? hqa)
    have pb := LA.place qb (List.mem_of_getElem? hqb)
    obtain ⟨ta, hta⟩ := ints_at (k := 0) (n := (qa.1 : Int)) hus (by rw [← hnodes, List.map_map, List.getElem?_map, hqa]; rfl)
    obtain ⟨tb, htb⟩ := ints_at (k := us.length - 1) (n := (qb.1 : Int)) hus (by rw [← hnodes, List.map_map, List.getElem?_map, ← hql, hqb]; rfl)
    have hta' : us.toArray[((0 : Int)).toNat]? = some (.int (qa.1 : Int) ta) := by simpa using hta
    k_steps
    unfold Stop
    (rename Fr G _ _ _ => F9); (rename News G _ _ _ => N9)
    try dsimp only at F9 N9 ⊢
    refine useRO F9 N9 (is_before_c (Bs.keeps ⟨X, T'⟩ F9.keep) (Rm.sub hd (by decide)) (hT.at (fun q hq => (N9 q (.tail _ (.tail _ (.tail _ (.tail _ (.tail _ (.tail _ (.tail _ (.tail _ (hr30 q (hr1 q hq))))))))))).1) hz40 hsm) pa pb) ?_
    clear F9 N9
    intro v9' h9 tk11 _ hv9 F9 N9
    subst hv9
    rw [hl1]
    try dsimp only at F9 N9 ⊢
    k_steps
    unfold Stop
    (rename Fr G _ _ _ => F10); (rename News G _ _ _ => N10)
    try dsimp only at F10 N10 ⊢
    refine useRO F10 N10 (is_before_c (Bs.keeps ⟨X, T'⟩ F10.keep) (Rm.sub hd (by decide)) (hT.at (fun q hq => (N10 q (.tail _ (.tail _ (.tail _ (.tail _ (.tail _ (.tail _ (.tail _ (.tail _ (hr30 q (hr1 q hq))))))))))).1) hz40 hsm) pb pa) ?_
    clear F10 N10
    intro v10' h10 tk12 _ hv10 F10 N10
    subst hv10
    rw [hl2]
    try dsimp only at F10 N10 ⊢
    k_steps
    (rename Fr G _ _ _ => F11); (rename News G _ _ _ => N11)
    exact fin ⟨rfl, rfl, rfl, rfl, trivial⟩ F11 N11 (fun q hq => .tail _ hq)
  · have hc : decide (((us.toArray.size : Nat) : Int) > 1) = false := decide_eq_false (by rw [List.size_toArray]; omega)
    k_steps
    (rename Fr G _ _ _ => F9); (rename News G _ _ _ => N9)
    exact fin ⟨rfl, rfl, rfl, rfl, trivial⟩ F9 N9 (fun q hq => .tail _ hq)
end
theorem list_exact {P : Params} {h : Heap} {a : Addr} {vs : List Value} {xs : List WData} (W' : Well P h (.ref a) (.list xs)) (L : h.IsList a vs.toArray) : h.get? a = some (W.listOf vs.toArray 0) := by
  cases W' with
  | list e _ =>
    obtain ⟨o, e2, _, n, hd⟩ := L
    rw [e] at e2
    obtain rfl := Option.some.inj e2
    have h1 := Data.seq.inj hd
    rw [e, h1.1]
theorem law_post (x : WData) : row.claim.post [x] (.bool true) [x] = true := by
  first
    | rfl
    | kernel_rfl
section
theorem holds_of (left : LeftO pg view loose (fun s => xlAt view [] s && recOk (RowW.records row.toRowW) s) (Hook.obs hook) (Hook.val hook) 4676) : PySem.Challenge.rw_on0187_01.Holds := by
  refine holds_law said fun _ => ?_
  refine holds_open (q := view) (loose := loose) (Xt := fun s => xlAt view [] s && recOk (RowW.records row.toRowW) s) (XP := XL view []) (Yf := Hook.obs hook) (Ya := Hook.val hook) (YP := Hook.says hook) (N := 4676)
    left (Hook.of hook) (Hook.keeps hook) (fun s e => xl_of s (Bool.and_eq_true_iff.mp e).1) XL.keeps (by rfl) (by rfl) (by rfl) (fun s e => recFacts_of (Bool.and_eq_true_iff.mp e).2) (by rfl) (by first | assumption | decide +kernel) (by decide +kernel) ⟨rfl, rfl, rfl, rfl, rfl, by decide +kernel⟩ ?hw ?hc
  case hw => w_witness2
  case hc =>
  clear left
  refine fill0 ?_; k_fill; intro _
  intro w s₀ s₁ mg mb G Y fa o pm cd doc dV kV ho hd hcd hD hmg hg args vals as hpre hlay hrd hwl hlo
  have KX := km_in_of Y
  km_tabs Y
  have X := (Ground.X G).1
  have V := (Ground.X G).2
  refine Ground.open G ?_
  intro T B D TE TW
  km_lay T hmg ho hd cd
  have hfa : fa = 366 := by
    have e1 := mg_of (n := Str.ofString "law") KX T.g (v := .ref 366) (by kernel_rfl)
    have e2 : some (Value.ref fa) = some (Value.ref 366) := hmg.symm.trans e1
    cases e2; rfl
  subst hfa
  wrow_args hpre hlay hrd hwl hlo
  have h56 := hT8 56 (.head _)
  have X' : (K w.params).In (hideAll s₁.heap [56]) := ghost_K hT9 KX (by kernel_rfl)
  have T' := ghost_top hT9 T
  (rename Well _ _ _ _ => hW); (rename IntsAre _ _ => hI); (rename Heap.IsList _ _ _ => hL); (rename (¬ _) => h63)
  have hex := list_exact (show Well _ _ (.ref _) (.list _) from hW) hL
  have hne : ∀ {a : Addr} {vs : Array Value} {n : Nat}, s₁.heap.get? a = some (W.listOf vs n) → a ≠ 56 := fun e q => by
    rw [q, h56] at e; cases e
  have hl : LstAt (hideAll s₁.heap [56]) _ _ := ⟨0, hideAll_get [56] hex fun hm => hne hex (List.mem_singleton.mp hm)⟩
  refine law_c (tab := #[]) ⟨X', T'⟩ (below_caller _) rfl h56 ⟨rfl, by decide +kernel, by decide +kernel⟩ hl hI (by omega) _ _ ?_
  intro h' tk' tab' k hok
  refine ⟨.inl ⟨.bool true, .bool true, [], rfl, fun cls => rfl, .bool true, law_post _, fun _ => ⟨.nil, fun _ ha => nomatch ha⟩⟩, ⟨fun b o e => ?_, fun b o e => ?_⟩, rfl, .of_eq hg⟩
  · by_cases hb : b = 56
    · subst hb
      obtain rfl := Option.some.inj (h56.symm.trans e)
      refine .inr (.inl ⟨((hT9 (58, 56) (.head _)).1.tab (hT9 (58, 56) (.head _)).2).isCodeTable, rfl, #[], tab', rfl, ?_⟩)
      rw [Array.empty_append]; exact hok.1
    · exact .inl (k b o hb e)
  · by_cases hb : b = 56
    · subst hb
      exact ⟨_, hok.1⟩
    · exact ⟨o, k b o hb e⟩
end
end Mine
set_option maxRecDepth 100000 in
set_option maxHeartbeats 8000000 in
theorem PySem.Challenge.cw_on0187_01_holds : PySem.Challenge.rw_on0187_01.Holds := by
  exact Mine.holds_of Mine.left
