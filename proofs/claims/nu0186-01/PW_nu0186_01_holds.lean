import PyProof.Rows.All
import Wide.All
import OpenK.AllK
import Wide.FinOn
import PySem.Challenge.RW_nu0186_01
open PySem PySem.W PySem.Calls PyProof.Rows
set_option Elab.async false
set_option maxRecDepth 100000
set_option maxHeartbeats 4000000
set_option compiler.extract_closed false
set_option linter.unusedVariables false
set_option linter.unusedSimpArgs false
namespace Mine
noncomputable def top : List Stmt := PySem.Challenge.pw_nu0186_01.main.body
noncomputable def nth : Nat → List Stmt → Stmt
  | _, [] => .Pass default
  | 0, x :: _ => x
  | n + 1, _ :: r => nth n r
noncomputable def inC : Stmt → List Stmt
  | .ClassDef _ _ _ b _ _ _ _ _ _ _ => b
  | _ => []
noncomputable def mkF {n : Str} {a : Arguments} {b : List Stmt} {d : List Expr} {r : Option Expr} {t : List TypeParam} {s : Scope} {u : Option Scope} {i : Str} {p : Pos} (x : Stmt) (_ : x = .FunctionDef n a b d r t s u i p) (k : Arguments → List Stmt → Scope → Obj) : Obj := k a b s
noncomputable def hd.heap_39 : Params → Frag := fun P =>
(nat_lit 2, { cls := Value.none, data := Data.dict #[] }) ::
(nat_lit 3, { cls := Value.type "dict", data := Data.dict #[{ hash := PyData.keyHash P (Str.ofString "__name__"), key := Value.str (Str.ofString "__name__") 165, val := Value.str (Str.ofString "law_nu0186_01") 974 }, { hash := PyData.keyHash P (Str.ofString "__doc__"), key := Value.str (Str.ofString "__doc__") 166, val := Value.none }, { hash := PyData.keyHash P (Str.ofString "__package__"), key := Value.str (Str.ofString "__package__") 167, val := Value.none }, { hash := PyData.keyHash P (Str.ofString "__loader__"), key := Value.str (Str.ofString "__loader__") 168, val := Value.builtin "__main__.__loader__#opaque" }, { hash := PyData.keyHash P (Str.ofString "__spec__"), key := Value.str (Str.ofString "__spec__") 169, val := Value.none }, { hash := PyData.keyHash P (Str.ofString "__annotations__"), key := Value.str (Str.ofString "__annotations__") 170, val := Value.ref 6 }, { hash := PyData.keyHash P (Str.ofString "__builtins__"), key := Value.str (Str.ofString "__builtins__") 171, val := Value.ref 4 }, { hash := PyData.keyHash P (Str.ofString "__file__"), key := Value.str (Str.ofString "__file__") 173, val := Value.str (Str.ofString "/claim/cut.py") 172 }, { hash := PyData.keyHash P (Str.ofString "__cached__"), key := Value.str (Str.ofString "__cached__") 174, val := Value.none }, { hash := PyData.keyHash P (Str.ofString "_wall"), key := Value.str (Str.ofString "_wall") 193, val := Value.ref 21 }, { hash := PyData.keyHash P (Str.ofString "Anchor"), key := Value.str (Str.ofString "Anchor") 233, val := Value.ref 45 }, { hash := PyData.keyHash P (Str.ofString "told_anchor"), key := Value.str (Str.ofString "told_anchor") 240, val := Value.ref 56 }, { hash := PyData.keyHash P (Str.ofString "difference"), key := Value.str (Str.ofString "difference") 248, val := Value.ref 63 }, { hash := PyData.keyHash P (Str.ofString "told_marks"), key := Value.str (Str.ofString "told_marks") 254, val := Value.ref 68 }, { hash := PyData.keyHash P (Str.ofString "IGNORE_BASES"), key := Value.str (Str.ofString "IGNORE_BASES") 258, val := Value.int 2 257 }, { hash := PyData.keyHash P (Str.ofString "IGNORE_LIGATURES"), key := Value.str (Str.ofString "IGNORE_LIGATURES") 260, val := Value.int 4 259 }, { hash := PyData.keyHash P (Str.ofString "IGNORE_MARKS"), key := Value.str (Str.ofString "IGNORE_MARKS") 262, val := Value.int 8 261 }, { hash := PyData.keyHash P (Str.ofString "USE_SET"), key := Value.str (Str.ofString "USE_SET") 264, val := Value.int 16 263 }, { hash := PyData.keyHash P (Str.ofString "Lookup"), key := Value.str (Str.ofString "Lookup") 305, val := Value.ref 90 }, { hash := PyData.keyHash P (Str.ofString "Scene"), key := Value.str (Str.ofString "Scene") 345, val := Value.ref 112 }, { hash := PyData.keyHash P (Str.ofString "attach_wanted"), key := Value.str (Str.ofString "attach_wanted") 352, val := Value.ref 123 }, { hash := PyData.keyHash P (Str.ofString "class_bit"), key := Value.str (Str.ofString "class_bit") 359, val := Value.ref 130 }, { hash := PyData.keyHash P (Str.ofString "is_ignored"), key := Value.str (Str.ofString "is_ignored") 370, val := Value.ref 137 }, { hash := PyData.keyHash P (Str.ofString "passes"), key := Value.str (Str.ofString "passes") 378, val := Value.ref 144 }, { hash := PyData.keyHash P (Str.ofString "Info"), key := Value.str (Str.ofString "Info") 439, val := Value.ref 175 }, { hash := PyData.keyHash P (Str.ofString "Buffer"), key := Value.str (Str.ofString "Buffer") 497, val := Value.ref 221 }, { hash := PyData.keyHash P (Str.ofString "hang"), key := Value.str (Str.ofString "hang") 503, val := Value.ref 230 }, { hash := PyData.keyHash P (Str.ofString "KINDS_AROUND"), key := Value.str (Str.ofString "KINDS_AROUND") 509, val := Value.ref 231 }, { hash := PyData.keyHash P (Str.ofString "neighbour"), key := Value.str (Str.ofString "neighbour") 519, val := Value.ref 238 }, { hash := PyData.keyHash P (Str.ofString "before_at"), key := Value.str (Str.ofString "before_at") 527, val := Value.ref 245 }, { hash := PyData.keyHash P (Str.ofString "MARK_GLYPH"), key := Value.str (Str.ofString "MARK_GLYPH") 531, val := Value.int 3 530 }, { hash := PyData.keyHash P (Str.ofString "classes_of"), key := Value.str (Str.ofString "classes_of") 537, val := Value.ref 250 }, { hash := PyData.keyHash P (Str.ofString "told_row"), key := Value.str (Str.ofString "told_row") 543, val := Value.ref 255 }, { hash := PyData.keyHash P (Str.ofString "has_anchor"), key := Value.str (Str.ofString "has_anchor") 549, val := Value.ref 260 }, { hash := PyData.keyHash P (Str.ofString "told_by_glyph"), key := Value.str (Str.ofString "told_by_glyph") 560, val := Value.ref 267 }, { hash := PyData.keyHash P (Str.ofString "MarkBase"), key := Value.str (Str.ofString "MarkBase") 598, val := Value.ref 291 }, { hash := PyData.keyHash P (Str.ofString "MarkComponent"), key := Value.str (Str.ofString "MarkComponent") 635, val := Value.ref 317 }, { hash := PyData.keyHash P (Str.ofString "MarkMark"), key := Value.str (Str.ofString "MarkMark") 673, val := Value.ref 345 }, { hash := PyData.keyHash P (Str.ofString "scene_with"), key := Value.str (Str.ofString "scene_with") 683, val := Value.ref 356 }, { hash := PyData.keyHash P (Str.ofString "is_mark_at"), key := Value.str (Str.ofString "is_mark_at") 691, val := Value.ref 363 }, { hash := PyData.keyHash P (Str.ofString "is_later_part"), key := Value.str (Str.ofString "is_later_part") 701, val := Value.ref 370 }, { hash := PyData.keyHash P (Str.ofString "base_ahead"), key := Value.str (Str.ofString "base_ahead") 711, val := Value.ref 377 }, { hash := PyData.keyHash P (Str.ofString "set_on"), key := Value.str (Str.ofString "set_on") 726, val := Value.ref 384 }, { hash := PyData.keyHash P (Str.ofString "apply_base"), key := Value.str (Str.ofString "apply_base") 736, val := Value.ref 391 }, { hash := PyData.keyHash P (Str.ofString "component_of"), key := Value.str (Str.ofString "component_of") 745, val := Value.ref 398 }, { hash := PyData.keyHash P (Str.ofString "apply_component"), key := Value.str (Str.ofString "apply_component") 757, val := Value.ref 405 }, { hash := PyData.keyHash P (Str.ofString "are_of_one"), key := Value.str (Str.ofString "are_of_one") 765, val := Value.ref 412 }, { hash := PyData.keyHash P (Str.ofString "apply_mark"), key := Value.str (Str.ofString "apply_mark") 777, val := Value.ref 419 }, { hash := PyData.keyHash P (Str.ofString "ClassDef"), key := Value.str (Str.ofString "ClassDef") 839, val := Value.ref 462 }, { hash := PyData.keyHash P (Str.ofString "Coverage"), key := Value.str (Str.ofString "Coverage") 896, val := Value.ref 504 }, { hash := PyData.keyHash P (Str.ofString "NO_CLASS"), key := Value.str (Str.ofString "NO_CLASS") 900, val := Value.int 0 899 }, { hash := PyData.keyHash P (Str.ofString "BASE"), key := Value.str (Str.ofString "BASE") 902, val := Value.int 1 901 }, { hash := PyData.keyHash P (Str.ofString "COMPONENT"), key := Value.str (Str.ofString "COMPONENT") 904, val := Value.int 4 903 }, { hash := PyData.keyHash P (Str.ofString "Gdef"), key := Value.str (Str.ofString "Gdef") 973, val := Value.ref 552 }, { hash := PyData.keyHash P (Str.ofString "_law_pen"), key := Value.str (Str.ofString "_law_pen") 981, val := Value.ref 561 }, { hash := PyData.keyHash P (Str.ofString "_law_draw"), key := Value.str (Str.ofString "_law_draw") 991, val := Value.ref 568 }, { hash := PyData.keyHash P (Str.ofString "_law_classes"), key := Value.str (Str.ofString "_law_classes") 1013, val := Value.ref 569 }, { hash := PyData.keyHash P (Str.ofString "_law_attach"), key := Value.str (Str.ofString "_law_attach") 1020, val := Value.ref 570 }, { hash := PyData.keyHash P (Str.ofString "_law_set"), key := Value.str (Str.ofString "_law_set") 1023, val := Value.ref 571 }, { hash := PyData.keyHash P (Str.ofString "_law_rows"), key := Value.str (Str.ofString "_law_rows") 1037, val := Value.ref 578 }, { hash := PyData.keyHash P (Str.ofString "_law_infos"), key := Value.str (Str.ofString "_law_infos") 1051, val := Value.ref 585 }, { hash := PyData.keyHash P (Str.ofString "_law_class"), key := Value.str (Str.ofString "_law_class") 1058, val := Value.ref 592 }, { hash := PyData.keyHash P (Str.ofString "_law_counts"), key := Value.str (Str.ofString "_law_counts") 1066, val := Value.ref 599 }, { hash := PyData.keyHash P (Str.ofString "_law_ahead"), key := Value.str (Str.ofString "_law_ahead") 1076, val := Value.ref 606 }, { hash := PyData.keyHash P (Str.ofString "_law_is_later"), key := Value.str (Str.ofString "_law_is_later") 1084, val := Value.ref 613 }, { hash := PyData.keyHash P (Str.ofString "_law_goal"), key := Value.str (Str.ofString "_law_goal") 1100, val := Value.ref 620 }, { hash := PyData.keyHash P (Str.ofString "law"), key := Value.str (Str.ofString "law") 1106, val := Value.ref 625 }] 67 }) ::
(nat_lit 15, { cls := Value.type "tuple", data := Data.seq #[] }) ::
(nat_lit 17, { cls := Value.type "tuple", data := Data.seq #[Value.str (Str.ofString "k") 190] }) ::
(nat_lit 18, { cls := Value.type "tuple", data := Data.seq #[] }) ::
(nat_lit 20, { cls := Value.type "code", data := Data.fields #[Value.str (Str.ofString "_wall") 187, Value.str (Str.ofString "_wall") 188, Value.str (Str.ofString "/claim/cut.py") 189, Value.int 1 0, Value.int 1 0, Value.int 0 0, Value.int 0 0, Value.int 3 0, Value.ref 15, Value.bool true, Value.int 181 0, Value.ref 16, Value.none, Value.ref 17, Value.ref 18, Value.ref 19, Value.int 191 0, Value.int 1 0, Value.str (Str.ofString "/claim/cut.py") 192] }) ::
(nat_lit 21, mkF (nth 0 top) rfl fun a b s => { cls := Value.type "function", data := Data.func { name := Str.ofString "_wall", qualname := Str.ofString "_wall", params := a, body := FuncBody.stmts b, scope := s, globals := 3, closure := [], defaults := Value.none, kwdefaults := Value.none, pyModule := Value.str (Str.ofString "__main__") 164, code := Value.ref 20 } }) ::
(nat_lit 29, { cls := Value.type "tuple", data := Data.seq #[] }) ::
(nat_lit 31, { cls := Value.type "tuple", data := Data.seq #[Value.str (Str.ofString "self") 211, Value.str (Str.ofString "x") 212, Value.str (Str.ofString "y") 213] }) ::
(nat_lit 32, { cls := Value.type "tuple", data := Data.seq #[] }) ::
(nat_lit 34, { cls := Value.type "code", data := Data.fields #[Value.str (Str.ofString "__init__") 208, Value.str (Str.ofString "Anchor.__init__") 209, Value.str (Str.ofString "/claim/cut.py") 210, Value.int 7 0, Value.int 3 0, Value.int 0 0, Value.int 0 0, Value.int 3 0, Value.ref 29, Value.bool true, Value.int 181 0, Value.ref 30, Value.none, Value.ref 31, Value.ref 32, Value.ref 33, Value.int 214 0, Value.int 7 0, Value.str (Str.ofString "/claim/cut.py") 215] }) ::
(nat_lit 35, mkF (nth 0 (inC (nth 2 top))) rfl fun a b s => { cls := Value.type "function", data := Data.func { name := Str.ofString "__init__", qualname := Str.ofString "Anchor.__init__", params := a, body := FuncBody.stmts b, scope := s, globals := 3, closure := [], defaults := Value.none, kwdefaults := Value.none, pyModule := Value.str (Str.ofString "joinedhand.anchors") 194, code := Value.ref 34 } }) ::
(nat_lit 36, { cls := Value.type "tuple", data := Data.seq #[] }) ::
(nat_lit 38, { cls := Value.type "tuple", data := Data.seq #[Value.str (Str.ofString "self") 220] }) ::
(nat_lit 39, { cls := Value.type "tuple", data := Data.seq #[] }) ::
(nat_lit 41, { cls := Value.type "code", data := Data.fields #[Value.str (Str.ofString "told") 217, Value.str (Str.ofString "Anchor.told") 218, Value.str (Str.ofString "/claim/cut.py") 219, Value.int 11 0, Value.int 1 0, Value.int 0 0, Value.int 0 0, Value.int 3 0, Value.ref 36, Value.bool true, Value.int 181 0, Value.ref 37, Value.none, Value.ref 38, Value.ref 39, Value.ref 40, Value.int 221 0, Value.int 11 0, Value.str (Str.ofString "/claim/cut.py") 222] }) ::
(nat_lit 42, mkF (nth 1 (inC (nth 2 top))) rfl fun a b s => { cls := Value.type "function", data := Data.func { name := Str.ofString "told", qualname := Str.ofString "Anchor.told", params := a, body := FuncBody.stmts b, scope := s, globals := 3, closure := [], defaults := Value.none, kwdefaults := Value.none, pyModule := Value.str (Str.ofString "joinedhand.anchors") 194, code := Value.ref 41 } }) ::
(nat_lit 43, { cls := Value.type "tuple", data := Data.seq #[Value.str (Str.ofString "x") 224, Value.str (Str.ofString "y") 225] }) ::
(nat_lit 44, { cls := Value.type "dict", data := Data.dict #[{ hash := PyData.keyHash P (Str.ofString "__module__"), key := Value.str (Str.ofString "__module__") 203, val := Value.str (Str.ofString "joinedhand.anchors") 194 }, { hash := PyData.keyHash P (Str.ofString "__firstlineno__"), key := Value.str (Str.ofString "__firstlineno__") 207, val := Value.int 5 206 }, { hash := PyData.keyHash P (Str.ofString "__init__"), key := Value.str (Str.ofString "__init__") 216, val := Value.ref 35 }, { hash := PyData.keyHash P (Str.ofString "told"), key := Value.str (Str.ofString "told") 223, val := Value.ref 42 }, { hash := PyData.keyHash P (Str.ofString "__static_attributes__"), key := Value.str (Str.ofString "__static_attributes__") 226, val := Value.ref 43 }, { hash := PyData.keyHash P (Str.ofString "__dict__"), key := Value.str (Str.ofString "__dict__") 228, val := Value.ref 46 }, { hash := PyData.keyHash P (Str.ofString "__weakref__"), key := Value.str (Str.ofString "__weakref__") 230, val := Value.ref 47 }, { hash := PyData.keyHash P (Str.ofString "__doc__"), key := Value.str (Str.ofString "__doc__") 231, val := Value.none }] 4 }) ::
(nat_lit 45, { cls := Value.type "type", data := Data.cls { name := Str.ofString "Anchor", bases := [Value.type "object"], mro := [Value.ref 45, Value.type "object"], ns := 44, qualname := Str.ofString "Anchor" }, slots := #[none, none, some (Value.str (Str.ofString "Anchor") 196), some (Value.str (Str.ofString "Anchor") 204), some (Value.builtin "object.__new__"), some (Value.bool true)] }) ::
(nat_lit 46, { cls := Value.type "getset_descriptor", data := Data.fields #[Value.str (Str.ofString "__dict__") 227, Value.ref 45, Value.builtin "function.__dict__", Value.builtin "function.__dict__#set"] }) ::
(nat_lit 47, { cls := Value.type "getset_descriptor", data := Data.fields #[Value.str (Str.ofString "__weakref__") 229, Value.ref 45, Value.builtin "ExceptionGroup.__weakref__", Value.none] }) ::
(nat_lit 50, { cls := Value.type "tuple", data := Data.seq #[] }) ::
(nat_lit 52, { cls := Value.type "tuple", data := Data.seq #[Value.str (Str.ofString "anchor") 237] }) ::
(nat_lit 53, { cls := Value.type "tuple", data := Data.seq #[] }) ::
(nat_lit 55, { cls := Value.type "code", data := Data.fields #[Value.str (Str.ofString "told_anchor") 234, Value.str (Str.ofString "told_anchor") 235, Value.str (Str.ofString "/claim/cut.py") 236, Value.int 13 0, Value.int 1 0, Value.int 0 0, Value.int 0 0, Value.int 3 0, Value.ref 50, Value.bool true, Value.int 181 0, Value.ref 51, Value.none, Value.ref 52, Value.ref 53, Value.ref 54, Value.int 238 0, Value.int 13 0, Value.str (Str.ofString "/claim/cut.py") 239] }) ::
(nat_lit 56, mkF (nth 3 top) rfl fun a b s => { cls := Value.type "function", data := Data.func { name := Str.ofString "told_anchor", qualname := Str.ofString "told_anchor", params := a, body := FuncBody.stmts b, scope := s, globals := 3, closure := [], defaults := Value.none, kwdefaults := Value.none, pyModule := Value.str (Str.ofString "joinedhand.anchors") 194, code := Value.ref 55 } }) ::
(nat_lit 57, { cls := Value.type "tuple", data := Data.seq #[] }) ::
(nat_lit 59, { cls := Value.type "tuple", data := Data.seq #[Value.str (Str.ofString "one") 244, Value.str (Str.ofString "other") 245] }) ::
(nat_lit 60, { cls := Value.type "tuple", data := Data.seq #[] }) ::
(nat_lit 62, { cls := Value.type "code", data := Data.fields #[Value.str (Str.ofString "difference") 241, Value.str (Str.ofString "difference") 242, Value.str (Str.ofString "/claim/cut.py") 243, Value.int 15 0, Value.int 2 0, Value.int 0 0, Value.int 0 0, Value.int 3 0, Value.ref 57, Value.bool true, Value.int 181 0, Value.ref 58, Value.none, Value.ref 59, Value.ref 60, Value.ref 61, Value.int 246 0, Value.int 15 0, Value.str (Str.ofString "/claim/cut.py") 247] }) ::
(nat_lit 63, mkF (nth 4 top) rfl fun a b s => { cls := Value.type "function", data := Data.func { name := Str.ofString "difference", qualname := Str.ofString "difference", params := a, body := FuncBody.stmts b, scope := s, globals := 3, closure := [], defaults := Value.none, kwdefaults := Value.none, pyModule := Value.str (Str.ofString "joinedhand.anchors") 194, code := Value.ref 62 } }) ::
(nat_lit 64, { cls := Value.type "tuple", data := Data.seq #[] }) ::
(nat_lit 67, { cls := Value.type "code", data := Data.fields #[Value.str (Str.ofString "told_marks") 249, Value.str (Str.ofString "told_marks") 250, Value.str (Str.ofString "/claim/cut.py") 251, Value.int 17 0, Value.int 1 0, Value.int 0 0, Value.int 0 0, Value.int 3 0, Value.ref 64, Value.bool true, Value.int 181 0, Value.ref 65, Value.none, Value.none, Value.none, Value.ref 66, Value.int 252 0, Value.int 17 0, Value.str (Str.ofString "/claim/cut.py") 253] }) ::
(nat_lit 68, mkF (nth 5 top) rfl fun a b s => { cls := Value.type "function", data := Data.func { name := Str.ofString "told_marks", qualname := Str.ofString "told_marks", params := a, body := FuncBody.stmts b, scope := s, globals := 3, closure := [], defaults := Value.none, kwdefaults := Value.none, pyModule := Value.str (Str.ofString "joinedhand.anchors") 194, code := Value.ref 67 } }) ::
(nat_lit 76, { cls := Value.type "tuple", data := Data.seq #[] }) ::
(nat_lit 78, { cls := Value.type "tuple", data := Data.seq #[Value.str (Str.ofString "self") 280, Value.str (Str.ofString "kind") 281, Value.str (Str.ofString "flag") 282, Value.str (Str.ofString "mark_set") 283, Value.str (Str.ofString "tables") 284] }) ::
(nat_lit 79, { cls := Value.type "tuple", data := Data.seq #[] }) ::
(nat_lit 81, { cls := Value.type "code", data := Data.fields #[Value.str (Str.ofString "__init__") 277, Value.str (Str.ofString "Lookup.__init__") 278, Value.str (Str.ofString "/claim/cut.py") 279, Value.int 26 0, Value.int 5 0, Value.int 0 0, Value.int 0 0, Value.int 3 0, Value.ref 76, Value.bool true, Value.int 181 0, Value.ref 77, Value.none, Value.ref 78, Value.ref 79, Value.ref 80, Value.int 285 0, Value.int 26 0, Value.str (Str.ofString "/claim/cut.py") 286] }) ::
(nat_lit 82, mkF (nth 0 (inC (nth 11 top))) rfl fun a b s => { cls := Value.type "function", data := Data.func { name := Str.ofString "__init__", qualname := Str.ofString "Lookup.__init__", params := a, body := FuncBody.stmts b, scope := s, globals := 3, closure := [], defaults := Value.none, kwdefaults := Value.none, pyModule := Value.str (Str.ofString "joinedhand.flags") 255, code := Value.ref 81 } }) ::
(nat_lit 83, { cls := Value.type "tuple", data := Data.seq #[] }) ::
(nat_lit 86, { cls := Value.type "code", data := Data.fields #[Value.str (Str.ofString "told") 288, Value.str (Str.ofString "Lookup.told") 289, Value.str (Str.ofString "/claim/cut.py") 290, Value.int 32 0, Value.int 1 0, Value.int 0 0, Value.int 0 0, Value.int 3 0, Value.ref 83, Value.bool true, Value.int 181 0, Value.ref 84, Value.none, Value.none, Value.none, Value.ref 85, Value.int 291 0, Value.int 32 0, Value.str (Str.ofString "/claim/cut.py") 292] }) ::
(nat_lit 87, mkF (nth 1 (inC (nth 11 top))) rfl fun a b s => { cls := Value.type "function", data := Data.func { name := Str.ofString "told", qualname := Str.ofString "Lookup.told", params := a, body := FuncBody.stmts b, scope := s, globals := 3, closure := [], defaults := Value.none, kwdefaults := Value.none, pyModule := Value.str (Str.ofString "joinedhand.flags") 255, code := Value.ref 86 } }) ::
(nat_lit 88, { cls := Value.type "tuple", data := Data.seq #[Value.str (Str.ofString "flag") 294, Value.str (Str.ofString "kind") 295, Value.str (Str.ofString "mark_set") 296, Value.str (Str.ofString "tables") 297] }) ::
(nat_lit 89, { cls := Value.type "dict", data := Data.dict #[{ hash := PyData.keyHash P (Str.ofString "__module__"), key := Value.str (Str.ofString "__module__") 272, val := Value.str (Str.ofString "joinedhand.flags") 255 }, { hash := PyData.keyHash P (Str.ofString "__firstlineno__"), key := Value.str (Str.ofString "__firstlineno__") 276, val := Value.int 24 275 }, { hash := PyData.keyHash P (Str.ofString "__init__"), key := Value.str (Str.ofString "__init__") 287, val := Value.ref 82 }, { hash := PyData.keyHash P (Str.ofString "told"), key := Value.str (Str.ofString "told") 293, val := Value.ref 87 }, { hash := PyData.keyHash P (Str.ofString "__static_attributes__"), key := Value.str (Str.ofString "__static_attributes__") 298, val := Value.ref 88 }, { hash := PyData.keyHash P (Str.ofString "__dict__"), key := Value.str (Str.ofString "__dict__") 300, val := Value.ref 91 }, { hash := PyData.keyHash P (Str.ofString "__weakref__"), key := Value.str (Str.ofString "__weakref__") 302, val := Value.ref 92 }, { hash := PyData.keyHash P (Str.ofString "__doc__"), key := Value.str (Str.ofString "__doc__") 303, val := Value.none }] 4 }) ::
(nat_lit 90, { cls := Value.type "type", data := Data.cls { name := Str.ofString "Lookup", bases := [Value.type "object"], mro := [Value.ref 90, Value.type "object"], ns := 89, qualname := Str.ofString "Lookup" }, slots := #[none, none, some (Value.str (Str.ofString "Lookup") 265), some (Value.str (Str.ofString "Lookup") 273), some (Value.builtin "object.__new__"), some (Value.bool true)] }) ::
(nat_lit 91, { cls := Value.type "getset_descriptor", data := Data.fields #[Value.str (Str.ofString "__dict__") 299, Value.ref 90, Value.builtin "function.__dict__", Value.builtin "function.__dict__#set"] }) ::
(nat_lit 92, { cls := Value.type "getset_descriptor", data := Data.fields #[Value.str (Str.ofString "__weakref__") 301, Value.ref 90, Value.builtin "ExceptionGroup.__weakref__", Value.none] }) ::
(nat_lit 102, { cls := Value.type "tuple", data := Data.seq #[Value.int 0 318] }) ::
(nat_lit 103, { cls := Value.type "tuple", data := Data.seq #[] }) ::
(nat_lit 105, { cls := Value.type "tuple", data := Data.seq #[Value.str (Str.ofString "self") 322, Value.str (Str.ofString "buffer") 323, Value.str (Str.ofString "gdef") 324, Value.str (Str.ofString "lookups") 325, Value.str (Str.ofString "lookup") 326, Value.str (Str.ofString "mask") 327, Value.str (Str.ofString "depth") 328] }) ::
(nat_lit 106, { cls := Value.type "tuple", data := Data.seq #[] }) ::
(nat_lit 108, { cls := Value.type "code", data := Data.fields #[Value.str (Str.ofString "__init__") 319, Value.str (Str.ofString "Scene.__init__") 320, Value.str (Str.ofString "/claim/cut.py") 321, Value.int 37 0, Value.int 7 0, Value.int 0 0, Value.int 0 0, Value.int 3 0, Value.ref 103, Value.bool true, Value.int 181 0, Value.ref 104, Value.none, Value.ref 105, Value.ref 106, Value.ref 107, Value.int 329 0, Value.int 37 0, Value.str (Str.ofString "/claim/cut.py") 330] }) ::
(nat_lit 109, mkF (nth 0 (inC (nth 12 top))) rfl fun a b s => { cls := Value.type "function", data := Data.func { name := Str.ofString "__init__", qualname := Str.ofString "Scene.__init__", params := a, body := FuncBody.stmts b, scope := s, globals := 3, closure := [], defaults := Value.ref 102, kwdefaults := Value.none, pyModule := Value.str (Str.ofString "joinedhand.flags") 255, code := Value.ref 108 } }) ::
(nat_lit 110, { cls := Value.type "tuple", data := Data.seq #[Value.str (Str.ofString "buffer") 332, Value.str (Str.ofString "depth") 333, Value.str (Str.ofString "gdef") 334, Value.str (Str.ofString "lookup") 335, Value.str (Str.ofString "lookups") 336, Value.str (Str.ofString "mask") 337] }) ::
(nat_lit 111, { cls := Value.type "dict", data := Data.dict #[{ hash := PyData.keyHash P (Str.ofString "__module__"), key := Value.str (Str.ofString "__module__") 313, val := Value.str (Str.ofString "joinedhand.flags") 255 }, { hash := PyData.keyHash P (Str.ofString "__firstlineno__"), key := Value.str (Str.ofString "__firstlineno__") 317, val := Value.int 35 316 }, { hash := PyData.keyHash P (Str.ofString "__init__"), key := Value.str (Str.ofString "__init__") 331, val := Value.ref 109 }, { hash := PyData.keyHash P (Str.ofString "__static_attributes__"), key := Value.str (Str.ofString "__static_attributes__") 338, val := Value.ref 110 }, { hash := PyData.keyHash P (Str.ofString "__dict__"), key := Value.str (Str.ofString "__dict__") 340, val := Value.ref 113 }, { hash := PyData.keyHash P (Str.ofString "__weakref__"), key := Value.str (Str.ofString "__weakref__") 342, val := Value.ref 114 }, { hash := PyData.keyHash P (Str.ofString "__doc__"), key := Value.str (Str.ofString "__doc__") 343, val := Value.none }] 4 }) ::
(nat_lit 112, { cls := Value.type "type", data := Data.cls { name := Str.ofString "Scene", bases := [Value.type "object"], mro := [Value.ref 112, Value.type "object"], ns := 111, qualname := Str.ofString "Scene" }, slots := #[none, none, some (Value.str (Str.ofString "Scene") 306), some (Value.str (Str.ofString "Scene") 314), some (Value.builtin "object.__new__"), some (Value.bool true)] }) ::
(nat_lit 113, { cls := Value.type "getset_descriptor", data := Data.fields #[Value.str (Str.ofString "__dict__") 339, Value.ref 112, Value.builtin "function.__dict__", Value.builtin "function.__dict__#set"] }) ::
(nat_lit 114, { cls := Value.type "getset_descriptor", data := Data.fields #[Value.str (Str.ofString "__weakref__") 341, Value.ref 112, Value.builtin "ExceptionGroup.__weakref__", Value.none] }) ::
(nat_lit 117, { cls := Value.type "tuple", data := Data.seq #[] }) ::
(nat_lit 119, { cls := Value.type "tuple", data := Data.seq #[Value.str (Str.ofString "flag") 349] }) ::
(nat_lit 120, { cls := Value.type "tuple", data := Data.seq #[] }) ::
(nat_lit 122, { cls := Value.type "code", data := Data.fields #[Value.str (Str.ofString "attach_wanted") 346, Value.str (Str.ofString "attach_wanted") 347, Value.str (Str.ofString "/claim/cut.py") 348, Value.int 44 0, Value.int 1 0, Value.int 0 0, Value.int 0 0, Value.int 3 0, Value.ref 117, Value.bool true, Value.int 181 0, Value.ref 118, Value.none, Value.ref 119, Value.ref 120, Value.ref 121, Value.int 350 0, Value.int 44 0, Value.str (Str.ofString "/claim/cut.py") 351] }) ::
(nat_lit 123, mkF (nth 13 top) rfl fun a b s => { cls := Value.type "function", data := Data.func { name := Str.ofString "attach_wanted", qualname := Str.ofString "attach_wanted", params := a, body := FuncBody.stmts b, scope := s, globals := 3, closure := [], defaults := Value.none, kwdefaults := Value.none, pyModule := Value.str (Str.ofString "joinedhand.flags") 255, code := Value.ref 122 } }) ::
(nat_lit 124, { cls := Value.type "tuple", data := Data.seq #[] }) ::
(nat_lit 126, { cls := Value.type "tuple", data := Data.seq #[Value.str (Str.ofString "number") 356] }) ::
(nat_lit 127, { cls := Value.type "tuple", data := Data.seq #[] }) ::
(nat_lit 129, { cls := Value.type "code", data := Data.fields #[Value.str (Str.ofString "class_bit") 353, Value.str (Str.ofString "class_bit") 354, Value.str (Str.ofString "/claim/cut.py") 355, Value.int 46 0, Value.int 1 0, Value.int 0 0, Value.int 0 0, Value.int 3 0, Value.ref 124, Value.bool true, Value.int 181 0, Value.ref 125, Value.none, Value.ref 126, Value.ref 127, Value.ref 128, Value.int 357 0, Value.int 46 0, Value.str (Str.ofString "/claim/cut.py") 358] }) ::
(nat_lit 130, mkF (nth 14 top) rfl fun a b s => { cls := Value.type "function", data := Data.func { name := Str.ofString "class_bit", qualname := Str.ofString "class_bit", params := a, body := FuncBody.stmts b, scope := s, globals := 3, closure := [], defaults := Value.none, kwdefaults := Value.none, pyModule := Value.str (Str.ofString "joinedhand.flags") 255, code := Value.ref 129 } }) ::
(nat_lit 131, { cls := Value.type "tuple", data := Data.seq #[] }) ::
(nat_lit 133, { cls := Value.type "tuple", data := Data.seq #[Value.str (Str.ofString "gdef") 363, Value.str (Str.ofString "lookup") 364, Value.str (Str.ofString "glyph") 365, Value.str (Str.ofString "number") 366, Value.str (Str.ofString "wanted") 367] }) ::
(nat_lit 134, { cls := Value.type "tuple", data := Data.seq #[] }) ::
(nat_lit 136, { cls := Value.type "code", data := Data.fields #[Value.str (Str.ofString "is_ignored") 360, Value.str (Str.ofString "is_ignored") 361, Value.str (Str.ofString "/claim/cut.py") 362, Value.int 48 0, Value.int 3 0, Value.int 0 0, Value.int 0 0, Value.int 3 0, Value.ref 131, Value.bool true, Value.int 181 0, Value.ref 132, Value.none, Value.ref 133, Value.ref 134, Value.ref 135, Value.int 368 0, Value.int 48 0, Value.str (Str.ofString "/claim/cut.py") 369] }) ::
(nat_lit 137, mkF (nth 15 top) rfl fun a b s => { cls := Value.type "function", data := Data.func { name := Str.ofString "is_ignored", qualname := Str.ofString "is_ignored", params := a, body := FuncBody.stmts b, scope := s, globals := 3, closure := [], defaults := Value.none, kwdefaults := Value.none, pyModule := Value.str (Str.ofString "joinedhand.flags") 255, code := Value.ref 136 } }) ::
(nat_lit 138, { cls := Value.type "tuple", data := Data.seq #[] }) ::
(nat_lit 140, { cls := Value.type "tuple", data := Data.seq #[Value.str (Str.ofString "scene") 374, Value.str (Str.ofString "at") 375] }) ::
(nat_lit 141, { cls := Value.type "tuple", data := Data.seq #[] }) ::
(nat_lit 143, { cls := Value.type "code", data := Data.fields #[Value.str (Str.ofString "passes") 371, Value.str (Str.ofString "passes") 372, Value.str (Str.ofString "/claim/cut.py") 373, Value.int 58 0, Value.int 2 0, Value.int 0 0, Value.int 0 0, Value.int 3 0, Value.ref 138, Value.bool true, Value.int 181 0, Value.ref 139, Value.none, Value.ref 140, Value.ref 141, Value.ref 142, Value.int 376 0, Value.int 58 0, Value.str (Str.ofString "/claim/cut.py") 377] }) ::
(nat_lit 144, mkF (nth 16 top) rfl fun a b s => { cls := Value.type "function", data := Data.func { name := Str.ofString "passes", qualname := Str.ofString "passes", params := a, body := FuncBody.stmts b, scope := s, globals := 3, closure := [], defaults := Value.none, kwdefaults := Value.none, pyModule := Value.str (Str.ofString "joinedhand.flags") 255, code := Value.ref 143 } }) ::
(nat_lit 152, { cls := Value.type "tuple", data := Data.seq #[] }) ::
(nat_lit 154, { cls := Value.type "tuple", data := Data.seq #[Value.str (Str.ofString "self") 396, Value.str (Str.ofString "code") 397, Value.str (Str.ofString "glyph") 398, Value.str (Str.ofString "cluster") 399] }) ::
(nat_lit 155, { cls := Value.type "tuple", data := Data.seq #[] }) ::
(nat_lit 157, { cls := Value.type "code", data := Data.fields #[Value.str (Str.ofString "__init__") 393, Value.str (Str.ofString "Info.__init__") 394, Value.str (Str.ofString "/claim/cut.py") 395, Value.int 63 0, Value.int 4 0, Value.int 0 0, Value.int 0 0, Value.int 3 0, Value.ref 152, Value.bool true, Value.int 181 0, Value.ref 153, Value.none, Value.ref 154, Value.ref 155, Value.ref 156, Value.int 400 0, Value.int 63 0, Value.str (Str.ofString "/claim/cut.py") 401] }) ::
(nat_lit 158, mkF (nth 0 (inC (nth 18 top))) rfl fun a b s => { cls := Value.type "function", data := Data.func { name := Str.ofString "__init__", qualname := Str.ofString "Info.__init__", params := a, body := FuncBody.stmts b, scope := s, globals := 3, closure := [], defaults := Value.none, kwdefaults := Value.none, pyModule := Value.str (Str.ofString "joinedhand.buffer") 379, code := Value.ref 157 } }) ::
(nat_lit 159, { cls := Value.type "tuple", data := Data.seq #[] }) ::
(nat_lit 161, { cls := Value.type "tuple", data := Data.seq #[Value.str (Str.ofString "self") 406] }) ::
(nat_lit 162, { cls := Value.type "tuple", data := Data.seq #[] }) ::
(nat_lit 164, { cls := Value.type "code", data := Data.fields #[Value.str (Str.ofString "copied") 403, Value.str (Str.ofString "Info.copied") 404, Value.str (Str.ofString "/claim/cut.py") 405, Value.int 80 0, Value.int 1 0, Value.int 0 0, Value.int 0 0, Value.int 3 0, Value.ref 159, Value.bool true, Value.int 181 0, Value.ref 160, Value.none, Value.ref 161, Value.ref 162, Value.ref 163, Value.int 407 0, Value.int 80 0, Value.str (Str.ofString "/claim/cut.py") 408] }) ::
(nat_lit 165, mkF (nth 1 (inC (nth 18 top))) rfl fun a b s => { cls := Value.type "function", data := Data.func { name := Str.ofString "copied", qualname := Str.ofString "Info.copied", params := a, body := FuncBody.stmts b, scope := s, globals := 3, closure := [], defaults := Value.none, kwdefaults := Value.none, pyModule := Value.str (Str.ofString "joinedhand.buffer") 379, code := Value.ref 164 } }) ::
(nat_lit 166, { cls := Value.type "tuple", data := Data.seq #[] }) ::
(nat_lit 168, { cls := Value.type "tuple", data := Data.seq #[Value.str (Str.ofString "self") 413] }) ::
(nat_lit 169, { cls := Value.type "tuple", data := Data.seq #[] }) ::
(nat_lit 171, { cls := Value.type "code", data := Data.fields #[Value.str (Str.ofString "told") 410, Value.str (Str.ofString "Info.told") 411, Value.str (Str.ofString "/claim/cut.py") 412, Value.int 83 0, Value.int 1 0, Value.int 0 0, Value.int 0 0, Value.int 3 0, Value.ref 166, Value.bool true, Value.int 181 0, Value.ref 167, Value.none, Value.ref 168, Value.ref 169, Value.ref 170, Value.int 414 0, Value.int 83 0, Value.str (Str.ofString "/claim/cut.py") 415] }) ::
(nat_lit 172, mkF (nth 2 (inC (nth 18 top))) rfl fun a b s => { cls := Value.type "function", data := Data.func { name := Str.ofString "told", qualname := Str.ofString "Info.told", params := a, body := FuncBody.stmts b, scope := s, globals := 3, closure := [], defaults := Value.none, kwdefaults := Value.none, pyModule := Value.str (Str.ofString "joinedhand.buffer") 379, code := Value.ref 171 } }) ::
(nat_lit 173, { cls := Value.type "tuple", data := Data.seq #[Value.str (Str.ofString "bond") 417, Value.str (Str.ofString "cluster") 418, Value.str (Str.ofString "code") 419, Value.str (Str.ofString "glyph") 420, Value.str (Str.ofString "is_unsafe") 421, Value.str (Str.ofString "kind") 422, Value.str (Str.ofString "lig_count") 423, Value.str (Str.ofString "lig_id") 424, Value.str (Str.ofString "lig_part") 425, Value.str (Str.ofString "mask") 426, Value.str (Str.ofString "parent") 427, Value.str (Str.ofString "x_advance") 428, Value.str (Str.ofString "x_offset") 429, Value.str (Str.ofString "y_advance") 430, Value.str (Str.ofString "y_offset") 431] }) ::
(nat_lit 174, { cls := Value.type "dict", data := Data.dict #[{ hash := PyData.keyHash P (Str.ofString "__module__"), key := Value.str (Str.ofString "__module__") 388, val := Value.str (Str.ofString "joinedhand.buffer") 379 }, { hash := PyData.keyHash P (Str.ofString "__firstlineno__"), key := Value.str (Str.ofString "__firstlineno__") 392, val := Value.int 61 391 }, { hash := PyData.keyHash P (Str.ofString "__init__"), key := Value.str (Str.ofString "__init__") 402, val := Value.ref 158 }, { hash := PyData.keyHash P (Str.ofString "copied"), key := Value.str (Str.ofString "copied") 409, val := Value.ref 165 }, { hash := PyData.keyHash P (Str.ofString "told"), key := Value.str (Str.ofString "told") 416, val := Value.ref 172 }, { hash := PyData.keyHash P (Str.ofString "__static_attributes__"), key := Value.str (Str.ofString "__static_attributes__") 432, val := Value.ref 173 }, { hash := PyData.keyHash P (Str.ofString "__dict__"), key := Value.str (Str.ofString "__dict__") 434, val := Value.ref 176 }, { hash := PyData.keyHash P (Str.ofString "__weakref__"), key := Value.str (Str.ofString "__weakref__") 436, val := Value.ref 177 }, { hash := PyData.keyHash P (Str.ofString "__doc__"), key := Value.str (Str.ofString "__doc__") 437, val := Value.none }] 4 }) ::
(nat_lit 175, { cls := Value.type "type", data := Data.cls { name := Str.ofString "Info", bases := [Value.type "object"], mro := [Value.ref 175, Value.type "object"], ns := 174, qualname := Str.ofString "Info" }, slots := #[none, none, some (Value.str (Str.ofString "Info") 381), some (Value.str (Str.ofString "Info") 389), some (Value.builtin "object.__new__"), some (Value.bool true)] }) ::
(nat_lit 176, { cls := Value.type "getset_descriptor", data := Data.fields #[Value.str (Str.ofString "__dict__") 433, Value.ref 175, Value.builtin "function.__dict__", Value.builtin "function.__dict__#set"] }) ::
(nat_lit 177, { cls := Value.type "getset_descriptor", data := Data.fields #[Value.str (Str.ofString "__weakref__") 435, Value.ref 175, Value.builtin "ExceptionGroup.__weakref__", Value.none] }) ::
(nat_lit 187, { cls := Value.type "tuple", data := Data.seq #[Value.bool false] }) ::
(nat_lit 188, { cls := Value.type "tuple", data := Data.seq #[] }) ::
(nat_lit 190, { cls := Value.type "tuple", data := Data.seq #[Value.str (Str.ofString "self") 455, Value.str (Str.ofString "infos") 456, Value.str (Str.ofString "is_backward") 457] }) ::
(nat_lit 191, { cls := Value.type "tuple", data := Data.seq #[] }) ::
(nat_lit 193, { cls := Value.type "code", data := Data.fields #[Value.str (Str.ofString "__init__") 452, Value.str (Str.ofString "Buffer.__init__") 453, Value.str (Str.ofString "/claim/cut.py") 454, Value.int 87 0, Value.int 3 0, Value.int 0 0, Value.int 0 0, Value.int 3 0, Value.ref 188, Value.bool true, Value.int 181 0, Value.ref 189, Value.none, Value.ref 190, Value.ref 191, Value.ref 192, Value.int 458 0, Value.int 87 0, Value.str (Str.ofString "/claim/cut.py") 459] }) ::
(nat_lit 194, mkF (nth 0 (inC (nth 19 top))) rfl fun a b s => { cls := Value.type "function", data := Data.func { name := Str.ofString "__init__", qualname := Str.ofString "Buffer.__init__", params := a, body := FuncBody.stmts b, scope := s, globals := 3, closure := [], defaults := Value.ref 187, kwdefaults := Value.none, pyModule := Value.str (Str.ofString "joinedhand.buffer") 379, code := Value.ref 193 } }) ::
(nat_lit 195, { cls := Value.type "tuple", data := Data.seq #[] }) ::
(nat_lit 198, { cls := Value.type "code", data := Data.fields #[Value.str (Str.ofString "glyphs") 461, Value.str (Str.ofString "Buffer.glyphs") 462, Value.str (Str.ofString "/claim/cut.py") 463, Value.int 92 0, Value.int 1 0, Value.int 0 0, Value.int 0 0, Value.int 3 0, Value.ref 195, Value.bool true, Value.int 181 0, Value.ref 196, Value.none, Value.none, Value.none, Value.ref 197, Value.int 464 0, Value.int 92 0, Value.str (Str.ofString "/claim/cut.py") 465] }) ::
(nat_lit 199, mkF (nth 1 (inC (nth 19 top))) rfl fun a b s => { cls := Value.type "function", data := Data.func { name := Str.ofString "glyphs", qualname := Str.ofString "Buffer.glyphs", params := a, body := FuncBody.stmts b, scope := s, globals := 3, closure := [], defaults := Value.none, kwdefaults := Value.none, pyModule := Value.str (Str.ofString "joinedhand.buffer") 379, code := Value.ref 198 } }) ::
(nat_lit 200, { cls := Value.type "tuple", data := Data.seq #[] }) ::
(nat_lit 202, { cls := Value.type "tuple", data := Data.seq #[Value.str (Str.ofString "self") 470] }) ::
(nat_lit 203, { cls := Value.type "tuple", data := Data.seq #[] }) ::
(nat_lit 205, { cls := Value.type "code", data := Data.fields #[Value.str (Str.ofString "clusters") 467, Value.str (Str.ofString "Buffer.clusters") 468, Value.str (Str.ofString "/claim/cut.py") 469, Value.int 95 0, Value.int 1 0, Value.int 0 0, Value.int 0 0, Value.int 3 0, Value.ref 200, Value.bool true, Value.int 181 0, Value.ref 201, Value.none, Value.ref 202, Value.ref 203, Value.ref 204, Value.int 471 0, Value.int 95 0, Value.str (Str.ofString "/claim/cut.py") 472] }) ::
(nat_lit 206, mkF (nth 2 (inC (nth 19 top))) rfl fun a b s => { cls := Value.type "function", data := Data.func { name := Str.ofString "clusters", qualname := Str.ofString "Buffer.clusters", params := a, body := FuncBody.stmts b, scope := s, globals := 3, closure := [], defaults := Value.none, kwdefaults := Value.none, pyModule := Value.str (Str.ofString "joinedhand.buffer") 379, code := Value.ref 205 } }) ::
(nat_lit 207, { cls := Value.type "tuple", data := Data.seq #[] }) ::
(nat_lit 210, { cls := Value.type "code", data := Data.fields #[Value.str (Str.ofString "told") 474, Value.str (Str.ofString "Buffer.told") 475, Value.str (Str.ofString "/claim/cut.py") 476, Value.int 98 0, Value.int 1 0, Value.int 0 0, Value.int 0 0, Value.int 3 0, Value.ref 207, Value.bool true, Value.int 181 0, Value.ref 208, Value.none, Value.none, Value.none, Value.ref 209, Value.int 477 0, Value.int 98 0, Value.str (Str.ofString "/claim/cut.py") 478] }) ::
(nat_lit 211, mkF (nth 3 (inC (nth 19 top))) rfl fun a b s => { cls := Value.type "function", data := Data.func { name := Str.ofString "told", qualname := Str.ofString "Buffer.told", params := a, body := FuncBody.stmts b, scope := s, globals := 3, closure := [], defaults := Value.none, kwdefaults := Value.none, pyModule := Value.str (Str.ofString "joinedhand.buffer") 379, code := Value.ref 210 } }) ::
(nat_lit 212, { cls := Value.type "tuple", data := Data.seq #[] }) ::
(nat_lit 214, { cls := Value.type "tuple", data := Data.seq #[Value.str (Str.ofString "self") 483] }) ::
(nat_lit 215, { cls := Value.type "tuple", data := Data.seq #[] }) ::
(nat_lit 217, { cls := Value.type "code", data := Data.fields #[Value.str (Str.ofString "next_lig") 480, Value.str (Str.ofString "Buffer.next_lig") 481, Value.str (Str.ofString "/claim/cut.py") 482, Value.int 101 0, Value.int 1 0, Value.int 0 0, Value.int 0 0, Value.int 3 0, Value.ref 212, Value.bool true, Value.int 181 0, Value.ref 213, Value.none, Value.ref 214, Value.ref 215, Value.ref 216, Value.int 484 0, Value.int 101 0, Value.str (Str.ofString "/claim/cut.py") 485] }) ::
(nat_lit 218, mkF (nth 4 (inC (nth 19 top))) rfl fun a b s => { cls := Value.type "function", data := Data.func { name := Str.ofString "next_lig", qualname := Str.ofString "Buffer.next_lig", params := a, body := FuncBody.stmts b, scope := s, globals := 3, closure := [], defaults := Value.none, kwdefaults := Value.none, pyModule := Value.str (Str.ofString "joinedhand.buffer") 379, code := Value.ref 217 } }) ::
(nat_lit 219, { cls := Value.type "tuple", data := Data.seq #[Value.str (Str.ofString "is_backward") 487, Value.str (Str.ofString "last_lig") 488, Value.str (Str.ofString "row") 489] }) ::
(nat_lit 220, { cls := Value.type "dict", data := Data.dict #[{ hash := PyData.keyHash P (Str.ofString "__module__"), key := Value.str (Str.ofString "__module__") 447, val := Value.str (Str.ofString "joinedhand.buffer") 379 }, { hash := PyData.keyHash P (Str.ofString "__firstlineno__"), key := Value.str (Str.ofString "__firstlineno__") 451, val := Value.int 85 450 }, { hash := PyData.keyHash P (Str.ofString "__init__"), key := Value.str (Str.ofString "__init__") 460, val := Value.ref 194 }, { hash := PyData.keyHash P (Str.ofString "glyphs"), key := Value.str (Str.ofString "glyphs") 466, val := Value.ref 199 }, { hash := PyData.keyHash P (Str.ofString "clusters"), key := Value.str (Str.ofString "clusters") 473, val := Value.ref 206 }, { hash := PyData.keyHash P (Str.ofString "told"), key := Value.str (Str.ofString "told") 479, val := Value.ref 211 }, { hash := PyData.keyHash P (Str.ofString "next_lig"), key := Value.str (Str.ofString "next_lig") 486, val := Value.ref 218 }, { hash := PyData.keyHash P (Str.ofString "__static_attributes__"), key := Value.str (Str.ofString "__static_attributes__") 490, val := Value.ref 219 }, { hash := PyData.keyHash P (Str.ofString "__dict__"), key := Value.str (Str.ofString "__dict__") 492, val := Value.ref 222 }, { hash := PyData.keyHash P (Str.ofString "__weakref__"), key := Value.str (Str.ofString "__weakref__") 494, val := Value.ref 223 }, { hash := PyData.keyHash P (Str.ofString "__doc__"), key := Value.str (Str.ofString "__doc__") 495, val := Value.none }] 4 }) ::
(nat_lit 221, { cls := Value.type "type", data := Data.cls { name := Str.ofString "Buffer", bases := [Value.type "object"], mro := [Value.ref 221, Value.type "object"], ns := 220, qualname := Str.ofString "Buffer" }, slots := #[none, none, some (Value.str (Str.ofString "Buffer") 440), some (Value.str (Str.ofString "Buffer") 448), some (Value.builtin "object.__new__"), some (Value.bool true)] }) ::
(nat_lit 222, { cls := Value.type "getset_descriptor", data := Data.fields #[Value.str (Str.ofString "__dict__") 491, Value.ref 221, Value.builtin "function.__dict__", Value.builtin "function.__dict__#set"] }) ::
(nat_lit 223, { cls := Value.type "getset_descriptor", data := Data.fields #[Value.str (Str.ofString "__weakref__") 493, Value.ref 221, Value.builtin "ExceptionGroup.__weakref__", Value.none] }) ::
(nat_lit 226, { cls := Value.type "tuple", data := Data.seq #[] }) ::
(nat_lit 229, { cls := Value.type "code", data := Data.fields #[Value.str (Str.ofString "hang") 498, Value.str (Str.ofString "hang") 499, Value.str (Str.ofString "/claim/cut.py") 500, Value.int 103 0, Value.int 3 0, Value.int 0 0, Value.int 0 0, Value.int 3 0, Value.ref 226, Value.bool true, Value.int 181 0, Value.ref 227, Value.none, Value.none, Value.none, Value.ref 228, Value.int 501 0, Value.int 103 0, Value.str (Str.ofString "/claim/cut.py") 502] }) ::
(nat_lit 230, mkF (nth 20 top) rfl fun a b s => { cls := Value.type "function", data := Data.func { name := Str.ofString "hang", qualname := Str.ofString "hang", params := a, body := FuncBody.stmts b, scope := s, globals := 3, closure := [], defaults := Value.none, kwdefaults := Value.none, pyModule := Value.str (Str.ofString "joinedhand.buffer") 379, code := Value.ref 229 } }) ::
(nat_lit 231, { cls := Value.type "tuple", data := Data.seq #[Value.str (Str.ofString "zwj") 506, Value.str (Str.ofString "zwnj") 507, Value.str (Str.ofString "hidden") 508] }) ::
(nat_lit 232, { cls := Value.type "tuple", data := Data.seq #[] }) ::
(nat_lit 234, { cls := Value.type "tuple", data := Data.seq #[Value.str (Str.ofString "scene") 513, Value.str (Str.ofString "at") 514, Value.str (Str.ofString "step") 515, Value.str (Str.ofString "here") 516] }) ::
(nat_lit 235, { cls := Value.type "tuple", data := Data.seq #[] }) ::
(nat_lit 237, { cls := Value.type "code", data := Data.fields #[Value.str (Str.ofString "neighbour") 510, Value.str (Str.ofString "neighbour") 511, Value.str (Str.ofString "/claim/cut.py") 512, Value.int 113 0, Value.int 3 0, Value.int 0 0, Value.int 0 0, Value.int 3 0, Value.ref 232, Value.bool true, Value.int 181 0, Value.ref 233, Value.none, Value.ref 234, Value.ref 235, Value.ref 236, Value.int 517 0, Value.int 113 0, Value.str (Str.ofString "/claim/cut.py") 518] }) ::
(nat_lit 238, mkF (nth 23 top) rfl fun a b s => { cls := Value.type "function", data := Data.func { name := Str.ofString "neighbour", qualname := Str.ofString "neighbour", params := a, body := FuncBody.stmts b, scope := s, globals := 3, closure := [], defaults := Value.none, kwdefaults := Value.none, pyModule := Value.str (Str.ofString "joinedhand.matching") 504, code := Value.ref 237 } }) ::
(nat_lit 239, { cls := Value.type "tuple", data := Data.seq #[] }) ::
(nat_lit 241, { cls := Value.type "tuple", data := Data.seq #[Value.str (Str.ofString "scene") 523, Value.str (Str.ofString "at") 524] }) ::
(nat_lit 242, { cls := Value.type "tuple", data := Data.seq #[] }) ::
(nat_lit 244, { cls := Value.type "code", data := Data.fields #[Value.str (Str.ofString "before_at") 520, Value.str (Str.ofString "before_at") 521, Value.str (Str.ofString "/claim/cut.py") 522, Value.int 120 0, Value.int 2 0, Value.int 0 0, Value.int 0 0, Value.int 3 0, Value.ref 239, Value.bool true, Value.int 181 0, Value.ref 240, Value.none, Value.ref 241, Value.ref 242, Value.ref 243, Value.int 525 0, Value.int 120 0, Value.str (Str.ofString "/claim/cut.py") 526] }) ::
(nat_lit 245, mkF (nth 24 top) rfl fun a b s => { cls := Value.type "function", data := Data.func { name := Str.ofString "before_at", qualname := Str.ofString "before_at", params := a, body := FuncBody.stmts b, scope := s, globals := 3, closure := [], defaults := Value.none, kwdefaults := Value.none, pyModule := Value.str (Str.ofString "joinedhand.matching") 504, code := Value.ref 244 } }) ::
(nat_lit 246, { cls := Value.type "tuple", data := Data.seq #[] }) ::
(nat_lit 249, { cls := Value.type "code", data := Data.fields #[Value.str (Str.ofString "classes_of") 532, Value.str (Str.ofString "classes_of") 533, Value.str (Str.ofString "/claim/cut.py") 534, Value.int 124 0, Value.int 1 0, Value.int 0 0, Value.int 0 0, Value.int 3 0, Value.ref 246, Value.bool true, Value.int 181 0, Value.ref 247, Value.none, Value.none, Value.none, Value.ref 248, Value.int 535 0, Value.int 124 0, Value.str (Str.ofString "/claim/cut.py") 536] }) ::
(nat_lit 250, mkF (nth 27 top) rfl fun a b s => { cls := Value.type "function", data := Data.func { name := Str.ofString "classes_of", qualname := Str.ofString "classes_of", params := a, body := FuncBody.stmts b, scope := s, globals := 3, closure := [], defaults := Value.none, kwdefaults := Value.none, pyModule := Value.str (Str.ofString "joinedhand.marks") 528, code := Value.ref 249 } }) ::
(nat_lit 251, { cls := Value.type "tuple", data := Data.seq #[] }) ::
(nat_lit 254, { cls := Value.type "code", data := Data.fields #[Value.str (Str.ofString "told_row") 538, Value.str (Str.ofString "told_row") 539, Value.str (Str.ofString "/claim/cut.py") 540, Value.int 126 0, Value.int 2 0, Value.int 0 0, Value.int 0 0, Value.int 3 0, Value.ref 251, Value.bool true, Value.int 181 0, Value.ref 252, Value.none, Value.none, Value.none, Value.ref 253, Value.int 541 0, Value.int 126 0, Value.str (Str.ofString "/claim/cut.py") 542] }) ::
(nat_lit 255, mkF (nth 28 top) rfl fun a b s => { cls := Value.type "function", data := Data.func { name := Str.ofString "told_row", qualname := Str.ofString "told_row", params := a, body := FuncBody.stmts b, scope := s, globals := 3, closure := [], defaults := Value.none, kwdefaults := Value.none, pyModule := Value.str (Str.ofString "joinedhand.marks") 528, code := Value.ref 254 } }) ::
(nat_lit 256, { cls := Value.type "tuple", data := Data.seq #[] }) ::
(nat_lit 259, { cls := Value.type "code", data := Data.fields #[Value.str (Str.ofString "has_anchor") 544, Value.str (Str.ofString "has_anchor") 545, Value.str (Str.ofString "/claim/cut.py") 546, Value.int 128 0, Value.int 1 0, Value.int 0 0, Value.int 0 0, Value.int 3 0, Value.ref 256, Value.bool true, Value.int 181 0, Value.ref 257, Value.none, Value.none, Value.none, Value.ref 258, Value.int 547 0, Value.int 128 0, Value.str (Str.ofString "/claim/cut.py") 548] }) ::
(nat_lit 260, mkF (nth 29 top) rfl fun a b s => { cls := Value.type "function", data := Data.func { name := Str.ofString "has_anchor", qualname := Str.ofString "has_anchor", params := a, body := FuncBody.stmts b, scope := s, globals := 3, closure := [], defaults := Value.none, kwdefaults := Value.none, pyModule := Value.str (Str.ofString "joinedhand.marks") 528, code := Value.ref 259 } }) ::
(nat_lit 261, { cls := Value.type "tuple", data := Data.seq #[] }) ::
(nat_lit 263, { cls := Value.type "tuple", data := Data.seq #[Value.str (Str.ofString "rows") 553, Value.str (Str.ofString "classes") 554, Value.str (Str.ofString "found") 555, Value.str (Str.ofString "glyph") 556, Value.str (Str.ofString "places") 557] }) ::
(nat_lit 264, { cls := Value.type "tuple", data := Data.seq #[] }) ::
(nat_lit 266, { cls := Value.type "code", data := Data.fields #[Value.str (Str.ofString "told_by_glyph") 550, Value.str (Str.ofString "told_by_glyph") 551, Value.str (Str.ofString "/claim/cut.py") 552, Value.int 130 0, Value.int 2 0, Value.int 0 0, Value.int 0 0, Value.int 3 0, Value.ref 261, Value.bool true, Value.int 181 0, Value.ref 262, Value.none, Value.ref 263, Value.ref 264, Value.ref 265, Value.int 558 0, Value.int 130 0, Value.str (Str.ofString "/claim/cut.py") 559] }) ::
(nat_lit 267, mkF (nth 30 top) rfl fun a b s => { cls := Value.type "function", data := Data.func { name := Str.ofString "told_by_glyph", qualname := Str.ofString "told_by_glyph", params := a, body := FuncBody.stmts b, scope := s, globals := 3, closure := [], defaults := Value.none, kwdefaults := Value.none, pyModule := Value.str (Str.ofString "joinedhand.marks") 528, code := Value.ref 266 } }) ::
(nat_lit 275, { cls := Value.type "tuple", data := Data.seq #[] }) ::
(nat_lit 277, { cls := Value.type "tuple", data := Data.seq #[Value.str (Str.ofString "self") 576, Value.str (Str.ofString "marks") 577, Value.str (Str.ofString "bases") 578] }) ::
(nat_lit 278, { cls := Value.type "tuple", data := Data.seq #[] }) ::
(nat_lit 280, { cls := Value.type "code", data := Data.fields #[Value.str (Str.ofString "__init__") 573, Value.str (Str.ofString "MarkBase.__init__") 574, Value.str (Str.ofString "/claim/cut.py") 575, Value.int 139 0, Value.int 3 0, Value.int 0 0, Value.int 0 0, Value.int 3 0, Value.ref 275, Value.bool true, Value.int 181 0, Value.ref 276, Value.none, Value.ref 277, Value.ref 278, Value.ref 279, Value.int 579 0, Value.int 139 0, Value.str (Str.ofString "/claim/cut.py") 580] }) ::
(nat_lit 281, mkF (nth 0 (inC (nth 31 top))) rfl fun a b s => { cls := Value.type "function", data := Data.func { name := Str.ofString "__init__", qualname := Str.ofString "MarkBase.__init__", params := a, body := FuncBody.stmts b, scope := s, globals := 3, closure := [], defaults := Value.none, kwdefaults := Value.none, pyModule := Value.str (Str.ofString "joinedhand.marks") 528, code := Value.ref 280 } }) ::
(nat_lit 282, { cls := Value.type "tuple", data := Data.seq #[] }) ::
(nat_lit 284, { cls := Value.type "tuple", data := Data.seq #[Value.str (Str.ofString "self") 585] }) ::
(nat_lit 285, { cls := Value.type "tuple", data := Data.seq #[] }) ::
(nat_lit 287, { cls := Value.type "code", data := Data.fields #[Value.str (Str.ofString "told") 582, Value.str (Str.ofString "MarkBase.told") 583, Value.str (Str.ofString "/claim/cut.py") 584, Value.int 143 0, Value.int 1 0, Value.int 0 0, Value.int 0 0, Value.int 3 0, Value.ref 282, Value.bool true, Value.int 181 0, Value.ref 283, Value.none, Value.ref 284, Value.ref 285, Value.ref 286, Value.int 586 0, Value.int 143 0, Value.str (Str.ofString "/claim/cut.py") 587] }) ::
(nat_lit 288, mkF (nth 1 (inC (nth 31 top))) rfl fun a b s => { cls := Value.type "function", data := Data.func { name := Str.ofString "told", qualname := Str.ofString "MarkBase.told", params := a, body := FuncBody.stmts b, scope := s, globals := 3, closure := [], defaults := Value.none, kwdefaults := Value.none, pyModule := Value.str (Str.ofString "joinedhand.marks") 528, code := Value.ref 287 } }) ::
(nat_lit 289, { cls := Value.type "tuple", data := Data.seq #[Value.str (Str.ofString "bases") 589, Value.str (Str.ofString "marks") 590] }) ::
(nat_lit 290, { cls := Value.type "dict", data := Data.dict #[{ hash := PyData.keyHash P (Str.ofString "__module__"), key := Value.str (Str.ofString "__module__") 568, val := Value.str (Str.ofString "joinedhand.marks") 528 }, { hash := PyData.keyHash P (Str.ofString "__firstlineno__"), key := Value.str (Str.ofString "__firstlineno__") 572, val := Value.int 137 571 }, { hash := PyData.keyHash P (Str.ofString "__init__"), key := Value.str (Str.ofString "__init__") 581, val := Value.ref 281 }, { hash := PyData.keyHash P (Str.ofString "told"), key := Value.str (Str.ofString "told") 588, val := Value.ref 288 }, { hash := PyData.keyHash P (Str.ofString "__static_attributes__"), key := Value.str (Str.ofString "__static_attributes__") 591, val := Value.ref 289 }, { hash := PyData.keyHash P (Str.ofString "__dict__"), key := Value.str (Str.ofString "__dict__") 593, val := Value.ref 292 }, { hash := PyData.keyHash P (Str.ofString "__weakref__"), key := Value.str (Str.ofString "__weakref__") 595, val := Value.ref 293 }, { hash := PyData.keyHash P (Str.ofString "__doc__"), key := Value.str (Str.ofString "__doc__") 596, val := Value.none }] 4 }) ::
(nat_lit 291, { cls := Value.type "type", data := Data.cls { name := Str.ofString "MarkBase", bases := [Value.type "object"], mro := [Value.ref 291, Value.type "object"], ns := 290, qualname := Str.ofString "MarkBase" }, slots := #[none, none, some (Value.str (Str.ofString "MarkBase") 561), some (Value.str (Str.ofString "MarkBase") 569), some (Value.builtin "object.__new__"), some (Value.bool true)] }) ::
(nat_lit 292, { cls := Value.type "getset_descriptor", data := Data.fields #[Value.str (Str.ofString "__dict__") 592, Value.ref 291, Value.builtin "function.__dict__", Value.builtin "function.__dict__#set"] }) ::
(nat_lit 293, { cls := Value.type "getset_descriptor", data := Data.fields #[Value.str (Str.ofString "__weakref__") 594, Value.ref 291, Value.builtin "ExceptionGroup.__weakref__", Value.none] }) ::
(nat_lit 303, { cls := Value.type "tuple", data := Data.seq #[] }) ::
(nat_lit 305, { cls := Value.type "tuple", data := Data.seq #[Value.str (Str.ofString "self") 614, Value.str (Str.ofString "marks") 615, Value.str (Str.ofString "ligatures") 616] }) ::
(nat_lit 306, { cls := Value.type "tuple", data := Data.seq #[] }) ::
(nat_lit 308, { cls := Value.type "code", data := Data.fields #[Value.str (Str.ofString "__init__") 611, Value.str (Str.ofString "MarkComponent.__init__") 612, Value.str (Str.ofString "/claim/cut.py") 613, Value.int 147 0, Value.int 3 0, Value.int 0 0, Value.int 0 0, Value.int 3 0, Value.ref 303, Value.bool true, Value.int 181 0, Value.ref 304, Value.none, Value.ref 305, Value.ref 306, Value.ref 307, Value.int 617 0, Value.int 147 0, Value.str (Str.ofString "/claim/cut.py") 618] }) ::
(nat_lit 309, mkF (nth 0 (inC (nth 32 top))) rfl fun a b s => { cls := Value.type "function", data := Data.func { name := Str.ofString "__init__", qualname := Str.ofString "MarkComponent.__init__", params := a, body := FuncBody.stmts b, scope := s, globals := 3, closure := [], defaults := Value.none, kwdefaults := Value.none, pyModule := Value.str (Str.ofString "joinedhand.marks") 528, code := Value.ref 308 } }) ::
(nat_lit 310, { cls := Value.type "tuple", data := Data.seq #[] }) ::
(nat_lit 313, { cls := Value.type "code", data := Data.fields #[Value.str (Str.ofString "told") 620, Value.str (Str.ofString "MarkComponent.told") 621, Value.str (Str.ofString "/claim/cut.py") 622, Value.int 151 0, Value.int 1 0, Value.int 0 0, Value.int 0 0, Value.int 3 0, Value.ref 310, Value.bool true, Value.int 181 0, Value.ref 311, Value.none, Value.none, Value.none, Value.ref 312, Value.int 623 0, Value.int 151 0, Value.str (Str.ofString "/claim/cut.py") 624] }) ::
(nat_lit 314, mkF (nth 1 (inC (nth 32 top))) rfl fun a b s => { cls := Value.type "function", data := Data.func { name := Str.ofString "told", qualname := Str.ofString "MarkComponent.told", params := a, body := FuncBody.stmts b, scope := s, globals := 3, closure := [], defaults := Value.none, kwdefaults := Value.none, pyModule := Value.str (Str.ofString "joinedhand.marks") 528, code := Value.ref 313 } }) ::
(nat_lit 315, { cls := Value.type "tuple", data := Data.seq #[Value.str (Str.ofString "ligatures") 626, Value.str (Str.ofString "marks") 627] }) ::
(nat_lit 316, { cls := Value.type "dict", data := Data.dict #[{ hash := PyData.keyHash P (Str.ofString "__module__"), key := Value.str (Str.ofString "__module__") 606, val := Value.str (Str.ofString "joinedhand.marks") 528 }, { hash := PyData.keyHash P (Str.ofString "__firstlineno__"), key := Value.str (Str.ofString "__firstlineno__") 610, val := Value.int 145 609 }, { hash := PyData.keyHash P (Str.ofString "__init__"), key := Value.str (Str.ofString "__init__") 619, val := Value.ref 309 }, { hash := PyData.keyHash P (Str.ofString "told"), key := Value.str (Str.ofString "told") 625, val := Value.ref 314 }, { hash := PyData.keyHash P (Str.ofString "__static_attributes__"), key := Value.str (Str.ofString "__static_attributes__") 628, val := Value.ref 315 }, { hash := PyData.keyHash P (Str.ofString "__dict__"), key := Value.str (Str.ofString "__dict__") 630, val := Value.ref 318 }, { hash := PyData.keyHash P (Str.ofString "__weakref__"), key := Value.str (Str.ofString "__weakref__") 632, val := Value.ref 319 }, { hash := PyData.keyHash P (Str.ofString "__doc__"), key := Value.str (Str.ofString "__doc__") 633, val := Value.none }] 4 }) ::
(nat_lit 317, { cls := Value.type "type", data := Data.cls { name := Str.ofString "MarkComponent", bases := [Value.type "object"], mro := [Value.ref 317, Value.type "object"], ns := 316, qualname := Str.ofString "MarkComponent" }, slots := #[none, none, some (Value.str (Str.ofString "MarkComponent") 599), some (Value.str (Str.ofString "MarkComponent") 607), some (Value.builtin "object.__new__"), some (Value.bool true)] }) ::
(nat_lit 318, { cls := Value.type "getset_descriptor", data := Data.fields #[Value.str (Str.ofString "__dict__") 629, Value.ref 317, Value.builtin "function.__dict__", Value.builtin "function.__dict__#set"] }) ::
(nat_lit 319, { cls := Value.type "getset_descriptor", data := Data.fields #[Value.str (Str.ofString "__weakref__") 631, Value.ref 317, Value.builtin "ExceptionGroup.__weakref__", Value.none] }) ::
(nat_lit 329, { cls := Value.type "tuple", data := Data.seq #[] }) ::
(nat_lit 331, { cls := Value.type "tuple", data := Data.seq #[Value.str (Str.ofString "self") 651, Value.str (Str.ofString "marks") 652, Value.str (Str.ofString "others") 653] }) ::
(nat_lit 332, { cls := Value.type "tuple", data := Data.seq #[] }) ::
(nat_lit 334, { cls := Value.type "code", data := Data.fields #[Value.str (Str.ofString "__init__") 648, Value.str (Str.ofString "MarkMark.__init__") 649, Value.str (Str.ofString "/claim/cut.py") 650, Value.int 161 0, Value.int 3 0, Value.int 0 0, Value.int 0 0, Value.int 3 0, Value.ref 329, Value.bool true, Value.int 181 0, Value.ref 330, Value.none, Value.ref 331, Value.ref 332, Value.ref 333, Value.int 654 0, Value.int 161 0, Value.str (Str.ofString "/claim/cut.py") 655] }) ::
(nat_lit 335, mkF (nth 0 (inC (nth 33 top))) rfl fun a b s => { cls := Value.type "function", data := Data.func { name := Str.ofString "__init__", qualname := Str.ofString "MarkMark.__init__", params := a, body := FuncBody.stmts b, scope := s, globals := 3, closure := [], defaults := Value.none, kwdefaults := Value.none, pyModule := Value.str (Str.ofString "joinedhand.marks") 528, code := Value.ref 334 } }) ::
(nat_lit 336, { cls := Value.type "tuple", data := Data.seq #[] }) ::
(nat_lit 338, { cls := Value.type "tuple", data := Data.seq #[Value.str (Str.ofString "self") 660] }) ::
(nat_lit 339, { cls := Value.type "tuple", data := Data.seq #[] }) ::
(nat_lit 341, { cls := Value.type "code", data := Data.fields #[Value.str (Str.ofString "told") 657, Value.str (Str.ofString "MarkMark.told") 658, Value.str (Str.ofString "/claim/cut.py") 659, Value.int 165 0, Value.int 1 0, Value.int 0 0, Value.int 0 0, Value.int 3 0, Value.ref 336, Value.bool true, Value.int 181 0, Value.ref 337, Value.none, Value.ref 338, Value.ref 339, Value.ref 340, Value.int 661 0, Value.int 165 0, Value.str (Str.ofString "/claim/cut.py") 662] }) ::
(nat_lit 342, mkF (nth 1 (inC (nth 33 top))) rfl fun a b s => { cls := Value.type "function", data := Data.func { name := Str.ofString "told", qualname := Str.ofString "MarkMark.told", params := a, body := FuncBody.stmts b, scope := s, globals := 3, closure := [], defaults := Value.none, kwdefaults := Value.none, pyModule := Value.str (Str.ofString "joinedhand.marks") 528, code := Value.ref 341 } }) ::
(nat_lit 343, { cls := Value.type "tuple", data := Data.seq #[Value.str (Str.ofString "marks") 664, Value.str (Str.ofString "others") 665] }) ::
(nat_lit 344, { cls := Value.type "dict", data := Data.dict #[{ hash := PyData.keyHash P (Str.ofString "__module__"), key := Value.str (Str.ofString "__module__") 643, val := Value.str (Str.ofString "joinedhand.marks") 528 }, { hash := PyData.keyHash P (Str.ofString "__firstlineno__"), key := Value.str (Str.ofString "__firstlineno__") 647, val := Value.int 159 646 }, { hash := PyData.keyHash P (Str.ofString "__init__"), key := Value.str (Str.ofString "__init__") 656, val := Value.ref 335 }, { hash := PyData.keyHash P (Str.ofString "told"), key := Value.str (Str.ofString "told") 663, val := Value.ref 342 }, { hash := PyData.keyHash P (Str.ofString "__static_attributes__"), key := Value.str (Str.ofString "__static_attributes__") 666, val := Value.ref 343 }, { hash := PyData.keyHash P (Str.ofString "__dict__"), key := Value.str (Str.ofString "__dict__") 668, val := Value.ref 346 }, { hash := PyData.keyHash P (Str.ofString "__weakref__"), key := Value.str (Str.ofString "__weakref__") 670, val := Value.ref 347 }, { hash := PyData.keyHash P (Str.ofString "__doc__"), key := Value.str (Str.ofString "__doc__") 671, val := Value.none }] 4 }) ::
(nat_lit 345, { cls := Value.type "type", data := Data.cls { name := Str.ofString "MarkMark", bases := [Value.type "object"], mro := [Value.ref 345, Value.type "object"], ns := 344, qualname := Str.ofString "MarkMark" }, slots := #[none, none, some (Value.str (Str.ofString "MarkMark") 636), some (Value.str (Str.ofString "MarkMark") 644), some (Value.builtin "object.__new__"), some (Value.bool true)] }) ::
(nat_lit 346, { cls := Value.type "getset_descriptor", data := Data.fields #[Value.str (Str.ofString "__dict__") 667, Value.ref 345, Value.builtin "function.__dict__", Value.builtin "function.__dict__#set"] }) ::
(nat_lit 347, { cls := Value.type "getset_descriptor", data := Data.fields #[Value.str (Str.ofString "__weakref__") 669, Value.ref 345, Value.builtin "ExceptionGroup.__weakref__", Value.none] }) ::
(nat_lit 350, { cls := Value.type "tuple", data := Data.seq #[] }) ::
(nat_lit 352, { cls := Value.type "tuple", data := Data.seq #[Value.str (Str.ofString "scene") 677, Value.str (Str.ofString "flag") 678, Value.str (Str.ofString "mark_set") 679, Value.str (Str.ofString "lookup") 680] }) ::
(nat_lit 353, { cls := Value.type "tuple", data := Data.seq #[] }) ::
(nat_lit 355, { cls := Value.type "code", data := Data.fields #[Value.str (Str.ofString "scene_with") 674, Value.str (Str.ofString "scene_with") 675, Value.str (Str.ofString "/claim/cut.py") 676, Value.int 167 0, Value.int 3 0, Value.int 0 0, Value.int 0 0, Value.int 3 0, Value.ref 350, Value.bool true, Value.int 181 0, Value.ref 351, Value.none, Value.ref 352, Value.ref 353, Value.ref 354, Value.int 681 0, Value.int 167 0, Value.str (Str.ofString "/claim/cut.py") 682] }) ::
(nat_lit 356, mkF (nth 34 top) rfl fun a b s => { cls := Value.type "function", data := Data.func { name := Str.ofString "scene_with", qualname := Str.ofString "scene_with", params := a, body := FuncBody.stmts b, scope := s, globals := 3, closure := [], defaults := Value.none, kwdefaults := Value.none, pyModule := Value.str (Str.ofString "joinedhand.marks") 528, code := Value.ref 355 } }) ::
(nat_lit 357, { cls := Value.type "tuple", data := Data.seq #[] }) ::
(nat_lit 359, { cls := Value.type "tuple", data := Data.seq #[Value.str (Str.ofString "scene") 687, Value.str (Str.ofString "at") 688] }) ::
(nat_lit 360, { cls := Value.type "tuple", data := Data.seq #[] }) ::
(nat_lit 362, { cls := Value.type "code", data := Data.fields #[Value.str (Str.ofString "is_mark_at") 684, Value.str (Str.ofString "is_mark_at") 685, Value.str (Str.ofString "/claim/cut.py") 686, Value.int 170 0, Value.int 2 0, Value.int 0 0, Value.int 0 0, Value.int 3 0, Value.ref 357, Value.bool true, Value.int 181 0, Value.ref 358, Value.none, Value.ref 359, Value.ref 360, Value.ref 361, Value.int 689 0, Value.int 170 0, Value.str (Str.ofString "/claim/cut.py") 690] }) ::
(nat_lit 363, mkF (nth 35 top) rfl fun a b s => { cls := Value.type "function", data := Data.func { name := Str.ofString "is_mark_at", qualname := Str.ofString "is_mark_at", params := a, body := FuncBody.stmts b, scope := s, globals := 3, closure := [], defaults := Value.none, kwdefaults := Value.none, pyModule := Value.str (Str.ofString "joinedhand.marks") 528, code := Value.ref 362 } }) ::
(nat_lit 364, { cls := Value.type "tuple", data := Data.seq #[] }) ::
(nat_lit 366, { cls := Value.type "tuple", data := Data.seq #[Value.str (Str.ofString "scene") 695, Value.str (Str.ofString "at") 696, Value.str (Str.ofString "info") 697, Value.str (Str.ofString "ahead") 698] }) ::
(nat_lit 367, { cls := Value.type "tuple", data := Data.seq #[] }) ::
(nat_lit 369, { cls := Value.type "code", data := Data.fields #[Value.str (Str.ofString "is_later_part") 692, Value.str (Str.ofString "is_later_part") 693, Value.str (Str.ofString "/claim/cut.py") 694, Value.int 172 0, Value.int 2 0, Value.int 0 0, Value.int 0 0, Value.int 3 0, Value.ref 364, Value.bool true, Value.int 181 0, Value.ref 365, Value.none, Value.ref 366, Value.ref 367, Value.ref 368, Value.int 699 0, Value.int 172 0, Value.str (Str.ofString "/claim/cut.py") 700] }) ::
(nat_lit 370, mkF (nth 36 top) rfl fun a b s => { cls := Value.type "function", data := Data.func { name := Str.ofString "is_later_part", qualname := Str.ofString "is_later_part", params := a, body := FuncBody.stmts b, scope := s, globals := 3, closure := [], defaults := Value.none, kwdefaults := Value.none, pyModule := Value.str (Str.ofString "joinedhand.marks") 528, code := Value.ref 369 } }) ::
(nat_lit 371, { cls := Value.type "tuple", data := Data.seq #[] }) ::
(nat_lit 373, { cls := Value.type "tuple", data := Data.seq #[Value.str (Str.ofString "scene") 705, Value.str (Str.ofString "at") 706, Value.str (Str.ofString "looking") 707, Value.str (Str.ofString "here") 708] }) ::
(nat_lit 374, { cls := Value.type "tuple", data := Data.seq #[] }) ::
(nat_lit 376, { cls := Value.type "code", data := Data.fields #[Value.str (Str.ofString "base_ahead") 702, Value.str (Str.ofString "base_ahead") 703, Value.str (Str.ofString "/claim/cut.py") 704, Value.int 178 0, Value.int 2 0, Value.int 0 0, Value.int 0 0, Value.int 3 0, Value.ref 371, Value.bool true, Value.int 181 0, Value.ref 372, Value.none, Value.ref 373, Value.ref 374, Value.ref 375, Value.int 709 0, Value.int 178 0, Value.str (Str.ofString "/claim/cut.py") 710] }) ::
(nat_lit 377, mkF (nth 37 top) rfl fun a b s => { cls := Value.type "function", data := Data.func { name := Str.ofString "base_ahead", qualname := Str.ofString "base_ahead", params := a, body := FuncBody.stmts b, scope := s, globals := 3, closure := [], defaults := Value.none, kwdefaults := Value.none, pyModule := Value.str (Str.ofString "joinedhand.marks") 528, code := Value.ref 376 } }) ::
(nat_lit 378, { cls := Value.type "tuple", data := Data.seq #[] }) ::
(nat_lit 380, { cls := Value.type "tuple", data := Data.seq #[Value.str (Str.ofString "scene") 715, Value.str (Str.ofString "marks") 716, Value.str (Str.ofString "row") 717, Value.str (Str.ofString "at") 718, Value.str (Str.ofString "place") 719, Value.str (Str.ofString "info") 720, Value.str (Str.ofString "number") 721, Value.str (Str.ofString "own") 722, Value.str (Str.ofString "anchor") 723] }) ::
(nat_lit 381, { cls := Value.type "tuple", data := Data.seq #[] }) ::
(nat_lit 383, { cls := Value.type "code", data := Data.fields #[Value.str (Str.ofString "set_on") 712, Value.str (Str.ofString "set_on") 713, Value.str (Str.ofString "/claim/cut.py") 714, Value.int 184 0, Value.int 5 0, Value.int 0 0, Value.int 0 0, Value.int 3 0, Value.ref 378, Value.bool true, Value.int 181 0, Value.ref 379, Value.none, Value.ref 380, Value.ref 381, Value.ref 382, Value.int 724 0, Value.int 184 0, Value.str (Str.ofString "/claim/cut.py") 725] }) ::
(nat_lit 384, mkF (nth 38 top) rfl fun a b s => { cls := Value.type "function", data := Data.func { name := Str.ofString "set_on", qualname := Str.ofString "set_on", params := a, body := FuncBody.stmts b, scope := s, globals := 3, closure := [], defaults := Value.none, kwdefaults := Value.none, pyModule := Value.str (Str.ofString "joinedhand.marks") 528, code := Value.ref 383 } }) ::
(nat_lit 385, { cls := Value.type "tuple", data := Data.seq #[] }) ::
(nat_lit 387, { cls := Value.type "tuple", data := Data.seq #[Value.str (Str.ofString "scene") 730, Value.str (Str.ofString "table") 731, Value.str (Str.ofString "at") 732, Value.str (Str.ofString "place") 733] }) ::
(nat_lit 388, { cls := Value.type "tuple", data := Data.seq #[] }) ::
(nat_lit 390, { cls := Value.type "code", data := Data.fields #[Value.str (Str.ofString "apply_base") 727, Value.str (Str.ofString "apply_base") 728, Value.str (Str.ofString "/claim/cut.py") 729, Value.int 195 0, Value.int 3 0, Value.int 0 0, Value.int 0 0, Value.int 3 0, Value.ref 385, Value.bool true, Value.int 181 0, Value.ref 386, Value.none, Value.ref 387, Value.ref 388, Value.ref 389, Value.int 734 0, Value.int 195 0, Value.str (Str.ofString "/claim/cut.py") 735] }) ::
(nat_lit 391, mkF (nth 39 top) rfl fun a b s => { cls := Value.type "function", data := Data.func { name := Str.ofString "apply_base", qualname := Str.ofString "apply_base", params := a, body := FuncBody.stmts b, scope := s, globals := 3, closure := [], defaults := Value.none, kwdefaults := Value.none, pyModule := Value.str (Str.ofString "joinedhand.marks") 528, code := Value.ref 390 } }) ::
(nat_lit 392, { cls := Value.type "tuple", data := Data.seq #[] }) ::
(nat_lit 394, { cls := Value.type "tuple", data := Data.seq #[Value.str (Str.ofString "mark") 740, Value.str (Str.ofString "ligature") 741, Value.str (Str.ofString "count") 742] }) ::
(nat_lit 395, { cls := Value.type "tuple", data := Data.seq #[] }) ::
(nat_lit 397, { cls := Value.type "code", data := Data.fields #[Value.str (Str.ofString "component_of") 737, Value.str (Str.ofString "component_of") 738, Value.str (Str.ofString "/claim/cut.py") 739, Value.int 202 0, Value.int 3 0, Value.int 0 0, Value.int 0 0, Value.int 3 0, Value.ref 392, Value.bool true, Value.int 181 0, Value.ref 393, Value.none, Value.ref 394, Value.ref 395, Value.ref 396, Value.int 743 0, Value.int 202 0, Value.str (Str.ofString "/claim/cut.py") 744] }) ::
(nat_lit 398, mkF (nth 40 top) rfl fun a b s => { cls := Value.type "function", data := Data.func { name := Str.ofString "component_of", qualname := Str.ofString "component_of", params := a, body := FuncBody.stmts b, scope := s, globals := 3, closure := [], defaults := Value.none, kwdefaults := Value.none, pyModule := Value.str (Str.ofString "joinedhand.marks") 528, code := Value.ref 397 } }) ::
(nat_lit 399, { cls := Value.type "tuple", data := Data.seq #[] }) ::
(nat_lit 401, { cls := Value.type "tuple", data := Data.seq #[Value.str (Str.ofString "scene") 749, Value.str (Str.ofString "table") 750, Value.str (Str.ofString "at") 751, Value.str (Str.ofString "row") 752, Value.str (Str.ofString "place") 753, Value.str (Str.ofString "parts") 754] }) ::
(nat_lit 402, { cls := Value.type "tuple", data := Data.seq #[] }) ::
(nat_lit 404, { cls := Value.type "code", data := Data.fields #[Value.str (Str.ofString "apply_component") 746, Value.str (Str.ofString "apply_component") 747, Value.str (Str.ofString "/claim/cut.py") 748, Value.int 206 0, Value.int 3 0, Value.int 0 0, Value.int 0 0, Value.int 3 0, Value.ref 399, Value.bool true, Value.int 181 0, Value.ref 400, Value.none, Value.ref 401, Value.ref 402, Value.ref 403, Value.int 755 0, Value.int 206 0, Value.str (Str.ofString "/claim/cut.py") 756] }) ::
(nat_lit 405, mkF (nth 41 top) rfl fun a b s => { cls := Value.type "function", data := Data.func { name := Str.ofString "apply_component", qualname := Str.ofString "apply_component", params := a, body := FuncBody.stmts b, scope := s, globals := 3, closure := [], defaults := Value.none, kwdefaults := Value.none, pyModule := Value.str (Str.ofString "joinedhand.marks") 528, code := Value.ref 404 } }) ::
(nat_lit 406, { cls := Value.type "tuple", data := Data.seq #[] }) ::
(nat_lit 408, { cls := Value.type "tuple", data := Data.seq #[Value.str (Str.ofString "mark") 761, Value.str (Str.ofString "other") 762] }) ::
(nat_lit 409, { cls := Value.type "tuple", data := Data.seq #[] }) ::
(nat_lit 411, { cls := Value.type "code", data := Data.fields #[Value.str (Str.ofString "are_of_one") 758, Value.str (Str.ofString "are_of_one") 759, Value.str (Str.ofString "/claim/cut.py") 760, Value.int 217 0, Value.int 2 0, Value.int 0 0, Value.int 0 0, Value.int 3 0, Value.ref 406, Value.bool true, Value.int 181 0, Value.ref 407, Value.none, Value.ref 408, Value.ref 409, Value.ref 410, Value.int 763 0, Value.int 217 0, Value.str (Str.ofString "/claim/cut.py") 764] }) ::
(nat_lit 412, mkF (nth 42 top) rfl fun a b s => { cls := Value.type "function", data := Data.func { name := Str.ofString "are_of_one", qualname := Str.ofString "are_of_one", params := a, body := FuncBody.stmts b, scope := s, globals := 3, closure := [], defaults := Value.none, kwdefaults := Value.none, pyModule := Value.str (Str.ofString "joinedhand.marks") 528, code := Value.ref 411 } }) ::
(nat_lit 413, { cls := Value.type "tuple", data := Data.seq #[] }) ::
(nat_lit 415, { cls := Value.type "tuple", data := Data.seq #[Value.str (Str.ofString "scene") 769, Value.str (Str.ofString "table") 770, Value.str (Str.ofString "at") 771, Value.str (Str.ofString "row") 772, Value.str (Str.ofString "passed") 773, Value.str (Str.ofString "place") 774] }) ::
(nat_lit 416, { cls := Value.type "tuple", data := Data.seq #[] }) ::
(nat_lit 418, { cls := Value.type "code", data := Data.fields #[Value.str (Str.ofString "apply_mark") 766, Value.str (Str.ofString "apply_mark") 767, Value.str (Str.ofString "/claim/cut.py") 768, Value.int 221 0, Value.int 3 0, Value.int 0 0, Value.int 0 0, Value.int 3 0, Value.ref 413, Value.bool true, Value.int 181 0, Value.ref 414, Value.none, Value.ref 415, Value.ref 416, Value.ref 417, Value.int 775 0, Value.int 221 0, Value.str (Str.ofString "/claim/cut.py") 776] }) ::
(nat_lit 419, mkF (nth 43 top) rfl fun a b s => { cls := Value.type "function", data := Data.func { name := Str.ofString "apply_mark", qualname := Str.ofString "apply_mark", params := a, body := FuncBody.stmts b, scope := s, globals := 3, closure := [], defaults := Value.none, kwdefaults := Value.none, pyModule := Value.str (Str.ofString "joinedhand.marks") 528, code := Value.ref 418 } }) ::
(nat_lit 427, { cls := Value.type "tuple", data := Data.seq #[] }) ::
(nat_lit 429, { cls := Value.type "tuple", data := Data.seq #[Value.str (Str.ofString "self") 795, Value.str (Str.ofString "classes") 796] }) ::
(nat_lit 430, { cls := Value.type "tuple", data := Data.seq #[] }) ::
(nat_lit 432, { cls := Value.type "code", data := Data.fields #[Value.str (Str.ofString "__init__") 792, Value.str (Str.ofString "ClassDef.__init__") 793, Value.str (Str.ofString "/claim/cut.py") 794, Value.int 235 0, Value.int 2 0, Value.int 0 0, Value.int 0 0, Value.int 3 0, Value.ref 427, Value.bool true, Value.int 181 0, Value.ref 428, Value.none, Value.ref 429, Value.ref 430, Value.ref 431, Value.int 797 0, Value.int 235 0, Value.str (Str.ofString "/claim/cut.py") 798] }) ::
(nat_lit 433, mkF (nth 0 (inC (nth 45 top))) rfl fun a b s => { cls := Value.type "function", data := Data.func { name := Str.ofString "__init__", qualname := Str.ofString "ClassDef.__init__", params := a, body := FuncBody.stmts b, scope := s, globals := 3, closure := [], defaults := Value.none, kwdefaults := Value.none, pyModule := Value.str (Str.ofString "joinedhand.classdefs") 778, code := Value.ref 432 } }) ::
(nat_lit 434, { cls := Value.type "tuple", data := Data.seq #[] }) ::
(nat_lit 436, { cls := Value.type "tuple", data := Data.seq #[Value.str (Str.ofString "self") 803, Value.str (Str.ofString "glyph") 804] }) ::
(nat_lit 437, { cls := Value.type "tuple", data := Data.seq #[] }) ::
(nat_lit 439, { cls := Value.type "code", data := Data.fields #[Value.str (Str.ofString "class_of") 800, Value.str (Str.ofString "ClassDef.class_of") 801, Value.str (Str.ofString "/claim/cut.py") 802, Value.int 238 0, Value.int 2 0, Value.int 0 0, Value.int 0 0, Value.int 3 0, Value.ref 434, Value.bool true, Value.int 181 0, Value.ref 435, Value.none, Value.ref 436, Value.ref 437, Value.ref 438, Value.int 805 0, Value.int 238 0, Value.str (Str.ofString "/claim/cut.py") 806] }) ::
(nat_lit 440, mkF (nth 1 (inC (nth 45 top))) rfl fun a b s => { cls := Value.type "function", data := Data.func { name := Str.ofString "class_of", qualname := Str.ofString "ClassDef.class_of", params := a, body := FuncBody.stmts b, scope := s, globals := 3, closure := [], defaults := Value.none, kwdefaults := Value.none, pyModule := Value.str (Str.ofString "joinedhand.classdefs") 778, code := Value.ref 439 } }) ::
(nat_lit 441, { cls := Value.type "tuple", data := Data.seq #[] }) ::
(nat_lit 443, { cls := Value.type "tuple", data := Data.seq #[Value.str (Str.ofString "self") 811, Value.str (Str.ofString "number") 812] }) ::
(nat_lit 444, { cls := Value.type "tuple", data := Data.seq #[] }) ::
(nat_lit 446, { cls := Value.type "code", data := Data.fields #[Value.str (Str.ofString "glyphs_of") 808, Value.str (Str.ofString "ClassDef.glyphs_of") 809, Value.str (Str.ofString "/claim/cut.py") 810, Value.int 241 0, Value.int 2 0, Value.int 0 0, Value.int 0 0, Value.int 3 0, Value.ref 441, Value.bool true, Value.int 181 0, Value.ref 442, Value.none, Value.ref 443, Value.ref 444, Value.ref 445, Value.int 813 0, Value.int 241 0, Value.str (Str.ofString "/claim/cut.py") 814] }) ::
(nat_lit 447, mkF (nth 2 (inC (nth 45 top))) rfl fun a b s => { cls := Value.type "function", data := Data.func { name := Str.ofString "glyphs_of", qualname := Str.ofString "ClassDef.glyphs_of", params := a, body := FuncBody.stmts b, scope := s, globals := 3, closure := [], defaults := Value.none, kwdefaults := Value.none, pyModule := Value.str (Str.ofString "joinedhand.classdefs") 778, code := Value.ref 446 } }) ::
(nat_lit 448, { cls := Value.type "tuple", data := Data.seq #[] }) ::
(nat_lit 450, { cls := Value.type "tuple", data := Data.seq #[Value.str (Str.ofString "self") 819, Value.str (Str.ofString "most") 820, Value.str (Str.ofString "glyph") 821] }) ::
(nat_lit 451, { cls := Value.type "tuple", data := Data.seq #[] }) ::
(nat_lit 453, { cls := Value.type "code", data := Data.fields #[Value.str (Str.ofString "count") 816, Value.str (Str.ofString "ClassDef.count") 817, Value.str (Str.ofString "/claim/cut.py") 818, Value.int 244 0, Value.int 1 0, Value.int 0 0, Value.int 0 0, Value.int 3 0, Value.ref 448, Value.bool true, Value.int 181 0, Value.ref 449, Value.none, Value.ref 450, Value.ref 451, Value.ref 452, Value.int 822 0, Value.int 244 0, Value.str (Str.ofString "/claim/cut.py") 823] }) ::
(nat_lit 454, mkF (nth 3 (inC (nth 45 top))) rfl fun a b s => { cls := Value.type "function", data := Data.func { name := Str.ofString "count", qualname := Str.ofString "ClassDef.count", params := a, body := FuncBody.stmts b, scope := s, globals := 3, closure := [], defaults := Value.none, kwdefaults := Value.none, pyModule := Value.str (Str.ofString "joinedhand.classdefs") 778, code := Value.ref 453 } }) ::
(nat_lit 455, { cls := Value.type "tuple", data := Data.seq #[] }) ::
(nat_lit 458, { cls := Value.type "code", data := Data.fields #[Value.str (Str.ofString "told") 825, Value.str (Str.ofString "ClassDef.told") 826, Value.str (Str.ofString "/claim/cut.py") 827, Value.int 250 0, Value.int 1 0, Value.int 0 0, Value.int 0 0, Value.int 3 0, Value.ref 455, Value.bool true, Value.int 181 0, Value.ref 456, Value.none, Value.none, Value.none, Value.ref 457, Value.int 828 0, Value.int 250 0, Value.str (Str.ofString "/claim/cut.py") 829] }) ::
(nat_lit 459, mkF (nth 4 (inC (nth 45 top))) rfl fun a b s => { cls := Value.type "function", data := Data.func { name := Str.ofString "told", qualname := Str.ofString "ClassDef.told", params := a, body := FuncBody.stmts b, scope := s, globals := 3, closure := [], defaults := Value.none, kwdefaults := Value.none, pyModule := Value.str (Str.ofString "joinedhand.classdefs") 778, code := Value.ref 458 } }) ::
(nat_lit 460, { cls := Value.type "tuple", data := Data.seq #[Value.str (Str.ofString "classes") 831] }) ::
(nat_lit 461, { cls := Value.type "dict", data := Data.dict #[{ hash := PyData.keyHash P (Str.ofString "__module__"), key := Value.str (Str.ofString "__module__") 787, val := Value.str (Str.ofString "joinedhand.classdefs") 778 }, { hash := PyData.keyHash P (Str.ofString "__firstlineno__"), key := Value.str (Str.ofString "__firstlineno__") 791, val := Value.int 233 790 }, { hash := PyData.keyHash P (Str.ofString "__init__"), key := Value.str (Str.ofString "__init__") 799, val := Value.ref 433 }, { hash := PyData.keyHash P (Str.ofString "class_of"), key := Value.str (Str.ofString "class_of") 807, val := Value.ref 440 }, { hash := PyData.keyHash P (Str.ofString "glyphs_of"), key := Value.str (Str.ofString "glyphs_of") 815, val := Value.ref 447 }, { hash := PyData.keyHash P (Str.ofString "count"), key := Value.str (Str.ofString "count") 824, val := Value.ref 454 }, { hash := PyData.keyHash P (Str.ofString "told"), key := Value.str (Str.ofString "told") 830, val := Value.ref 459 }, { hash := PyData.keyHash P (Str.ofString "__static_attributes__"), key := Value.str (Str.ofString "__static_attributes__") 832, val := Value.ref 460 }, { hash := PyData.keyHash P (Str.ofString "__dict__"), key := Value.str (Str.ofString "__dict__") 834, val := Value.ref 463 }, { hash := PyData.keyHash P (Str.ofString "__weakref__"), key := Value.str (Str.ofString "__weakref__") 836, val := Value.ref 464 }, { hash := PyData.keyHash P (Str.ofString "__doc__"), key := Value.str (Str.ofString "__doc__") 837, val := Value.none }] 4 }) ::
(nat_lit 462, { cls := Value.type "type", data := Data.cls { name := Str.ofString "ClassDef", bases := [Value.type "object"], mro := [Value.ref 462, Value.type "object"], ns := 461, qualname := Str.ofString "ClassDef" }, slots := #[none, none, some (Value.str (Str.ofString "ClassDef") 780), some (Value.str (Str.ofString "ClassDef") 788), some (Value.builtin "object.__new__"), some (Value.bool true)] }) ::
(nat_lit 463, { cls := Value.type "getset_descriptor", data := Data.fields #[Value.str (Str.ofString "__dict__") 833, Value.ref 462, Value.builtin "function.__dict__", Value.builtin "function.__dict__#set"] }) ::
(nat_lit 464, { cls := Value.type "getset_descriptor", data := Data.fields #[Value.str (Str.ofString "__weakref__") 835, Value.ref 462, Value.builtin "ExceptionGroup.__weakref__", Value.none] }) ::
(nat_lit 474, { cls := Value.type "tuple", data := Data.seq #[] }) ::
(nat_lit 476, { cls := Value.type "tuple", data := Data.seq #[Value.str (Str.ofString "self") 857, Value.str (Str.ofString "glyphs") 858] }) ::
(nat_lit 477, { cls := Value.type "tuple", data := Data.seq #[] }) ::
(nat_lit 479, { cls := Value.type "code", data := Data.fields #[Value.str (Str.ofString "__init__") 854, Value.str (Str.ofString "Coverage.__init__") 855, Value.str (Str.ofString "/claim/cut.py") 856, Value.int 255 0, Value.int 2 0, Value.int 0 0, Value.int 0 0, Value.int 3 0, Value.ref 474, Value.bool true, Value.int 181 0, Value.ref 475, Value.none, Value.ref 476, Value.ref 477, Value.ref 478, Value.int 859 0, Value.int 255 0, Value.str (Str.ofString "/claim/cut.py") 860] }) ::
(nat_lit 480, mkF (nth 0 (inC (nth 47 top))) rfl fun a b s => { cls := Value.type "function", data := Data.func { name := Str.ofString "__init__", qualname := Str.ofString "Coverage.__init__", params := a, body := FuncBody.stmts b, scope := s, globals := 3, closure := [], defaults := Value.none, kwdefaults := Value.none, pyModule := Value.str (Str.ofString "joinedhand.coverage") 840, code := Value.ref 479 } }) ::
(nat_lit 481, { cls := Value.type "tuple", data := Data.seq #[] }) ::
(nat_lit 483, { cls := Value.type "tuple", data := Data.seq #[Value.str (Str.ofString "self") 865, Value.str (Str.ofString "glyph") 866, Value.str (Str.ofString "low") 867, Value.str (Str.ofString "high") 868, Value.str (Str.ofString "middle") 869] }) ::
(nat_lit 484, { cls := Value.type "tuple", data := Data.seq #[] }) ::
(nat_lit 486, { cls := Value.type "code", data := Data.fields #[Value.str (Str.ofString "index") 862, Value.str (Str.ofString "Coverage.index") 863, Value.str (Str.ofString "/claim/cut.py") 864, Value.int 258 0, Value.int 2 0, Value.int 0 0, Value.int 0 0, Value.int 3 0, Value.ref 481, Value.bool true, Value.int 181 0, Value.ref 482, Value.none, Value.ref 483, Value.ref 484, Value.ref 485, Value.int 870 0, Value.int 258 0, Value.str (Str.ofString "/claim/cut.py") 871] }) ::
(nat_lit 487, mkF (nth 1 (inC (nth 47 top))) rfl fun a b s => { cls := Value.type "function", data := Data.func { name := Str.ofString "index", qualname := Str.ofString "Coverage.index", params := a, body := FuncBody.stmts b, scope := s, globals := 3, closure := [], defaults := Value.none, kwdefaults := Value.none, pyModule := Value.str (Str.ofString "joinedhand.coverage") 840, code := Value.ref 486 } }) ::
(nat_lit 488, { cls := Value.type "tuple", data := Data.seq #[] }) ::
(nat_lit 490, { cls := Value.type "tuple", data := Data.seq #[Value.str (Str.ofString "self") 876, Value.str (Str.ofString "glyph") 877] }) ::
(nat_lit 491, { cls := Value.type "tuple", data := Data.seq #[] }) ::
(nat_lit 493, { cls := Value.type "code", data := Data.fields #[Value.str (Str.ofString "has") 873, Value.str (Str.ofString "Coverage.has") 874, Value.str (Str.ofString "/claim/cut.py") 875, Value.int 271 0, Value.int 2 0, Value.int 0 0, Value.int 0 0, Value.int 3 0, Value.ref 488, Value.bool true, Value.int 181 0, Value.ref 489, Value.none, Value.ref 490, Value.ref 491, Value.ref 492, Value.int 878 0, Value.int 271 0, Value.str (Str.ofString "/claim/cut.py") 879] }) ::
(nat_lit 494, mkF (nth 2 (inC (nth 47 top))) rfl fun a b s => { cls := Value.type "function", data := Data.func { name := Str.ofString "has", qualname := Str.ofString "Coverage.has", params := a, body := FuncBody.stmts b, scope := s, globals := 3, closure := [], defaults := Value.none, kwdefaults := Value.none, pyModule := Value.str (Str.ofString "joinedhand.coverage") 840, code := Value.ref 493 } }) ::
(nat_lit 495, { cls := Value.type "tuple", data := Data.seq #[] }) ::
(nat_lit 497, { cls := Value.type "tuple", data := Data.seq #[Value.str (Str.ofString "self") 884] }) ::
(nat_lit 498, { cls := Value.type "tuple", data := Data.seq #[] }) ::
(nat_lit 500, { cls := Value.type "code", data := Data.fields #[Value.str (Str.ofString "told") 881, Value.str (Str.ofString "Coverage.told") 882, Value.str (Str.ofString "/claim/cut.py") 883, Value.int 274 0, Value.int 1 0, Value.int 0 0, Value.int 0 0, Value.int 3 0, Value.ref 495, Value.bool true, Value.int 181 0, Value.ref 496, Value.none, Value.ref 497, Value.ref 498, Value.ref 499, Value.int 885 0, Value.int 274 0, Value.str (Str.ofString "/claim/cut.py") 886] }) ::
(nat_lit 501, mkF (nth 3 (inC (nth 47 top))) rfl fun a b s => { cls := Value.type "function", data := Data.func { name := Str.ofString "told", qualname := Str.ofString "Coverage.told", params := a, body := FuncBody.stmts b, scope := s, globals := 3, closure := [], defaults := Value.none, kwdefaults := Value.none, pyModule := Value.str (Str.ofString "joinedhand.coverage") 840, code := Value.ref 500 } }) ::
(nat_lit 502, { cls := Value.type "tuple", data := Data.seq #[Value.str (Str.ofString "glyphs") 888] }) ::
(nat_lit 503, { cls := Value.type "dict", data := Data.dict #[{ hash := PyData.keyHash P (Str.ofString "__module__"), key := Value.str (Str.ofString "__module__") 849, val := Value.str (Str.ofString "joinedhand.coverage") 840 }, { hash := PyData.keyHash P (Str.ofString "__firstlineno__"), key := Value.str (Str.ofString "__firstlineno__") 853, val := Value.int 253 852 }, { hash := PyData.keyHash P (Str.ofString "__init__"), key := Value.str (Str.ofString "__init__") 861, val := Value.ref 480 }, { hash := PyData.keyHash P (Str.ofString "index"), key := Value.str (Str.ofString "index") 872, val := Value.ref 487 }, { hash := PyData.keyHash P (Str.ofString "has"), key := Value.str (Str.ofString "has") 880, val := Value.ref 494 }, { hash := PyData.keyHash P (Str.ofString "told"), key := Value.str (Str.ofString "told") 887, val := Value.ref 501 }, { hash := PyData.keyHash P (Str.ofString "__static_attributes__"), key := Value.str (Str.ofString "__static_attributes__") 889, val := Value.ref 502 }, { hash := PyData.keyHash P (Str.ofString "__dict__"), key := Value.str (Str.ofString "__dict__") 891, val := Value.ref 505 }, { hash := PyData.keyHash P (Str.ofString "__weakref__"), key := Value.str (Str.ofString "__weakref__") 893, val := Value.ref 506 }, { hash := PyData.keyHash P (Str.ofString "__doc__"), key := Value.str (Str.ofString "__doc__") 894, val := Value.none }] 4 }) ::
(nat_lit 504, { cls := Value.type "type", data := Data.cls { name := Str.ofString "Coverage", bases := [Value.type "object"], mro := [Value.ref 504, Value.type "object"], ns := 503, qualname := Str.ofString "Coverage" }, slots := #[none, none, some (Value.str (Str.ofString "Coverage") 842), some (Value.str (Str.ofString "Coverage") 850), some (Value.builtin "object.__new__"), some (Value.bool true)] }) ::
(nat_lit 505, { cls := Value.type "getset_descriptor", data := Data.fields #[Value.str (Str.ofString "__dict__") 890, Value.ref 504, Value.builtin "function.__dict__", Value.builtin "function.__dict__#set"] }) ::
(nat_lit 506, { cls := Value.type "getset_descriptor", data := Data.fields #[Value.str (Str.ofString "__weakref__") 892, Value.ref 504, Value.builtin "ExceptionGroup.__weakref__", Value.none] }) ::
(nat_lit 516, { cls := Value.type "tuple", data := Data.seq #[Value.none, Value.none] }) ::
(nat_lit 517, { cls := Value.type "tuple", data := Data.seq #[] }) ::
(nat_lit 519, { cls := Value.type "tuple", data := Data.seq #[Value.str (Str.ofString "self") 920, Value.str (Str.ofString "classes") 921, Value.str (Str.ofString "attach") 922, Value.str (Str.ofString "sets") 923, Value.str (Str.ofString "points") 924, Value.str (Str.ofString "carets") 925] }) ::
(nat_lit 520, { cls := Value.type "tuple", data := Data.seq #[] }) ::
(nat_lit 522, { cls := Value.type "code", data := Data.fields #[Value.str (Str.ofString "__init__") 917, Value.str (Str.ofString "Gdef.__init__") 918, Value.str (Str.ofString "/claim/cut.py") 919, Value.int 282 0, Value.int 6 0, Value.int 0 0, Value.int 0 0, Value.int 3 0, Value.ref 517, Value.bool true, Value.int 181 0, Value.ref 518, Value.none, Value.ref 519, Value.ref 520, Value.ref 521, Value.int 926 0, Value.int 282 0, Value.str (Str.ofString "/claim/cut.py") 927] }) ::
(nat_lit 523, mkF (nth 0 (inC (nth 52 top))) rfl fun a b s => { cls := Value.type "function", data := Data.func { name := Str.ofString "__init__", qualname := Str.ofString "Gdef.__init__", params := a, body := FuncBody.stmts b, scope := s, globals := 3, closure := [], defaults := Value.ref 516, kwdefaults := Value.none, pyModule := Value.str (Str.ofString "joinedhand.gdef") 897, code := Value.ref 522 } }) ::
(nat_lit 524, { cls := Value.type "tuple", data := Data.seq #[] }) ::
(nat_lit 526, { cls := Value.type "tuple", data := Data.seq #[Value.str (Str.ofString "self") 932, Value.str (Str.ofString "glyph") 933, Value.str (Str.ofString "number") 934] }) ::
(nat_lit 527, { cls := Value.type "tuple", data := Data.seq #[] }) ::
(nat_lit 529, { cls := Value.type "code", data := Data.fields #[Value.str (Str.ofString "glyph_class") 929, Value.str (Str.ofString "Gdef.glyph_class") 930, Value.str (Str.ofString "/claim/cut.py") 931, Value.int 289 0, Value.int 2 0, Value.int 0 0, Value.int 0 0, Value.int 3 0, Value.ref 524, Value.bool true, Value.int 181 0, Value.ref 525, Value.none, Value.ref 526, Value.ref 527, Value.ref 528, Value.int 935 0, Value.int 289 0, Value.str (Str.ofString "/claim/cut.py") 936] }) ::
(nat_lit 530, mkF (nth 1 (inC (nth 52 top))) rfl fun a b s => { cls := Value.type "function", data := Data.func { name := Str.ofString "glyph_class", qualname := Str.ofString "Gdef.glyph_class", params := a, body := FuncBody.stmts b, scope := s, globals := 3, closure := [], defaults := Value.none, kwdefaults := Value.none, pyModule := Value.str (Str.ofString "joinedhand.gdef") 897, code := Value.ref 529 } }) ::
(nat_lit 531, { cls := Value.type "tuple", data := Data.seq #[] }) ::
(nat_lit 533, { cls := Value.type "tuple", data := Data.seq #[Value.str (Str.ofString "self") 941, Value.str (Str.ofString "glyph") 942] }) ::
(nat_lit 534, { cls := Value.type "tuple", data := Data.seq #[] }) ::
(nat_lit 536, { cls := Value.type "code", data := Data.fields #[Value.str (Str.ofString "attach_class") 938, Value.str (Str.ofString "Gdef.attach_class") 939, Value.str (Str.ofString "/claim/cut.py") 940, Value.int 293 0, Value.int 2 0, Value.int 0 0, Value.int 0 0, Value.int 3 0, Value.ref 531, Value.bool true, Value.int 181 0, Value.ref 532, Value.none, Value.ref 533, Value.ref 534, Value.ref 535, Value.int 943 0, Value.int 293 0, Value.str (Str.ofString "/claim/cut.py") 944] }) ::
(nat_lit 537, mkF (nth 2 (inC (nth 52 top))) rfl fun a b s => { cls := Value.type "function", data := Data.func { name := Str.ofString "attach_class", qualname := Str.ofString "Gdef.attach_class", params := a, body := FuncBody.stmts b, scope := s, globals := 3, closure := [], defaults := Value.none, kwdefaults := Value.none, pyModule := Value.str (Str.ofString "joinedhand.gdef") 897, code := Value.ref 536 } }) ::
(nat_lit 538, { cls := Value.type "tuple", data := Data.seq #[] }) ::
(nat_lit 540, { cls := Value.type "tuple", data := Data.seq #[Value.str (Str.ofString "self") 949, Value.str (Str.ofString "number") 950, Value.str (Str.ofString "glyph") 951] }) ::
(nat_lit 541, { cls := Value.type "tuple", data := Data.seq #[] }) ::
(nat_lit 543, { cls := Value.type "code", data := Data.fields #[Value.str (Str.ofString "is_in_set") 946, Value.str (Str.ofString "Gdef.is_in_set") 947, Value.str (Str.ofString "/claim/cut.py") 948, Value.int 296 0, Value.int 3 0, Value.int 0 0, Value.int 0 0, Value.int 3 0, Value.ref 538, Value.bool true, Value.int 181 0, Value.ref 539, Value.none, Value.ref 540, Value.ref 541, Value.ref 542, Value.int 952 0, Value.int 296 0, Value.str (Str.ofString "/claim/cut.py") 953] }) ::
(nat_lit 544, mkF (nth 3 (inC (nth 52 top))) rfl fun a b s => { cls := Value.type "function", data := Data.func { name := Str.ofString "is_in_set", qualname := Str.ofString "Gdef.is_in_set", params := a, body := FuncBody.stmts b, scope := s, globals := 3, closure := [], defaults := Value.none, kwdefaults := Value.none, pyModule := Value.str (Str.ofString "joinedhand.gdef") 897, code := Value.ref 543 } }) ::
(nat_lit 545, { cls := Value.type "tuple", data := Data.seq #[] }) ::
(nat_lit 548, { cls := Value.type "code", data := Data.fields #[Value.str (Str.ofString "told") 955, Value.str (Str.ofString "Gdef.told") 956, Value.str (Str.ofString "/claim/cut.py") 957, Value.int 299 0, Value.int 1 0, Value.int 0 0, Value.int 0 0, Value.int 3 0, Value.ref 545, Value.bool true, Value.int 181 0, Value.ref 546, Value.none, Value.none, Value.none, Value.ref 547, Value.int 958 0, Value.int 299 0, Value.str (Str.ofString "/claim/cut.py") 959] }) ::
(nat_lit 549, mkF (nth 4 (inC (nth 52 top))) rfl fun a b s => { cls := Value.type "function", data := Data.func { name := Str.ofString "told", qualname := Str.ofString "Gdef.told", params := a, body := FuncBody.stmts b, scope := s, globals := 3, closure := [], defaults := Value.none, kwdefaults := Value.none, pyModule := Value.str (Str.ofString "joinedhand.gdef") 897, code := Value.ref 548 } }) ::
(nat_lit 550, { cls := Value.type "tuple", data := Data.seq #[Value.str (Str.ofString "attach") 961, Value.str (Str.ofString "carets") 962, Value.str (Str.ofString "classes") 963, Value.str (Str.ofString "points") 964, Value.str (Str.ofString "sets") 965] }) ::
(nat_lit 551, { cls := Value.type "dict", data := Data.dict #[{ hash := PyData.keyHash P (Str.ofString "__module__"), key := Value.str (Str.ofString "__module__") 912, val := Value.str (Str.ofString "joinedhand.gdef") 897 }, { hash := PyData.keyHash P (Str.ofString "__firstlineno__"), key := Value.str (Str.ofString "__firstlineno__") 916, val := Value.int 280 915 }, { hash := PyData.keyHash P (Str.ofString "__init__"), key := Value.str (Str.ofString "__init__") 928, val := Value.ref 523 }, { hash := PyData.keyHash P (Str.ofString "glyph_class"), key := Value.str (Str.ofString "glyph_class") 937, val := Value.ref 530 }, { hash := PyData.keyHash P (Str.ofString "attach_class"), key := Value.str (Str.ofString "attach_class") 945, val := Value.ref 537 }, { hash := PyData.keyHash P (Str.ofString "is_in_set"), key := Value.str (Str.ofString "is_in_set") 954, val := Value.ref 544 }, { hash := PyData.keyHash P (Str.ofString "told"), key := Value.str (Str.ofString "told") 960, val := Value.ref 549 }, { hash := PyData.keyHash P (Str.ofString "__static_attributes__"), key := Value.str (Str.ofString "__static_attributes__") 966, val := Value.ref 550 }, { hash := PyData.keyHash P (Str.ofString "__dict__"), key := Value.str (Str.ofString "__dict__") 968, val := Value.ref 553 }, { hash := PyData.keyHash P (Str.ofString "__weakref__"), key := Value.str (Str.ofString "__weakref__") 970, val := Value.ref 554 }, { hash := PyData.keyHash P (Str.ofString "__doc__"), key := Value.str (Str.ofString "__doc__") 971, val := Value.none }] 4 }) ::
(nat_lit 552, { cls := Value.type "type", data := Data.cls { name := Str.ofString "Gdef", bases := [Value.type "object"], mro := [Value.ref 552, Value.type "object"], ns := 551, qualname := Str.ofString "Gdef" }, slots := #[none, none, some (Value.str (Str.ofString "Gdef") 905), some (Value.str (Str.ofString "Gdef") 913), some (Value.builtin "object.__new__"), some (Value.bool true)] }) ::
(nat_lit 553, { cls := Value.type "getset_descriptor", data := Data.fields #[Value.str (Str.ofString "__dict__") 967, Value.ref 552, Value.builtin "function.__dict__", Value.builtin "function.__dict__#set"] }) ::
(nat_lit 554, { cls := Value.type "getset_descriptor", data := Data.fields #[Value.str (Str.ofString "__weakref__") 969, Value.ref 552, Value.builtin "ExceptionGroup.__weakref__", Value.none] }) ::
(nat_lit 557, { cls := Value.type "tuple", data := Data.seq #[] }) ::
(nat_lit 560, { cls := Value.type "code", data := Data.fields #[Value.str (Str.ofString "_law_pen") 976, Value.str (Str.ofString "_law_pen") 977, Value.str (Str.ofString "/claim/cut.py") 978, Value.int 304 0, Value.int 1 0, Value.int 0 0, Value.int 0 0, Value.int 3 0, Value.ref 557, Value.bool true, Value.int 181 0, Value.ref 558, Value.none, Value.none, Value.none, Value.ref 559, Value.int 979 0, Value.int 304 0, Value.str (Str.ofString "/claim/cut.py") 980] }) ::
(nat_lit 561, mkF (nth 54 top) rfl fun a b s => { cls := Value.type "function", data := Data.func { name := Str.ofString "_law_pen", qualname := Str.ofString "_law_pen", params := a, body := FuncBody.stmts b, scope := s, globals := 3, closure := [], defaults := Value.none, kwdefaults := Value.none, pyModule := Value.str (Str.ofString "law_nu0186_01") 974, code := Value.ref 560 } }) ::
(nat_lit 562, { cls := Value.type "tuple", data := Data.seq #[] }) ::
(nat_lit 564, { cls := Value.type "tuple", data := Data.seq #[Value.str (Str.ofString "pen") 985, Value.str (Str.ofString "limit") 986, Value.str (Str.ofString "place") 987, Value.str (Str.ofString "digit") 988] }) ::
(nat_lit 565, { cls := Value.type "tuple", data := Data.seq #[] }) ::
(nat_lit 567, { cls := Value.type "code", data := Data.fields #[Value.str (Str.ofString "_law_draw") 982, Value.str (Str.ofString "_law_draw") 983, Value.str (Str.ofString "/claim/cut.py") 984, Value.int 313 0, Value.int 2 0, Value.int 0 0, Value.int 0 0, Value.int 3 0, Value.ref 562, Value.bool true, Value.int 181 0, Value.ref 563, Value.none, Value.ref 564, Value.ref 565, Value.ref 566, Value.int 989 0, Value.int 313 0, Value.str (Str.ofString "/claim/cut.py") 990] }) ::
(nat_lit 568, mkF (nth 55 top) rfl fun a b s => { cls := Value.type "function", data := Data.func { name := Str.ofString "_law_draw", qualname := Str.ofString "_law_draw", params := a, body := FuncBody.stmts b, scope := s, globals := 3, closure := [], defaults := Value.none, kwdefaults := Value.none, pyModule := Value.str (Str.ofString "law_nu0186_01") 974, code := Value.ref 567 } }) ::
(nat_lit 569, { cls := Value.type "dict", data := Data.dict #[{ hash := 1, key := Value.int 1 992, val := Value.int 1 993 }, { hash := 2, key := Value.int 2 994, val := Value.int 1 995 }, { hash := 3, key := Value.int 3 996, val := Value.int 2 997 }, { hash := 4, key := Value.int 4 998, val := Value.int 3 999 }, { hash := 5, key := Value.int 5 1000, val := Value.int 3 1001 }, { hash := 6, key := Value.int 6 1002, val := Value.int 3 1003 }, { hash := 7, key := Value.int 7 1004, val := Value.int 4 1005 }] 7 }) ::
(nat_lit 570, { cls := Value.type "dict", data := Data.dict #[{ hash := 4, key := Value.int 4 1014, val := Value.int 1 1015 }, { hash := 5, key := Value.int 5 1016, val := Value.int 2 1017 }] 2 }) ::
(nat_lit 571, { cls := Value.type "tuple", data := Data.seq #[Value.int 4 1021, Value.int 6 1022] }) ::
(nat_lit 572, { cls := Value.type "tuple", data := Data.seq #[] }) ::
(nat_lit 574, { cls := Value.type "tuple", data := Data.seq #[Value.str (Str.ofString "pen") 1027, Value.str (Str.ofString "rows") 1028, Value.str (Str.ofString "place") 1029, Value.str (Str.ofString "glyph") 1030, Value.str (Str.ofString "way") 1031, Value.str (Str.ofString "lig_id") 1032, Value.str (Str.ofString "lig_part") 1033, Value.str (Str.ofString "kind") 1034] }) ::
(nat_lit 575, { cls := Value.type "tuple", data := Data.seq #[] }) ::
(nat_lit 577, { cls := Value.type "code", data := Data.fields #[Value.str (Str.ofString "_law_rows") 1024, Value.str (Str.ofString "_law_rows") 1025, Value.str (Str.ofString "/claim/cut.py") 1026, Value.int 327 0, Value.int 1 0, Value.int 0 0, Value.int 0 0, Value.int 3 0, Value.ref 572, Value.bool true, Value.int 181 0, Value.ref 573, Value.none, Value.ref 574, Value.ref 575, Value.ref 576, Value.int 1035 0, Value.int 327 0, Value.str (Str.ofString "/claim/cut.py") 1036] }) ::
(nat_lit 578, mkF (nth 59 top) rfl fun a b s => { cls := Value.type "function", data := Data.func { name := Str.ofString "_law_rows", qualname := Str.ofString "_law_rows", params := a, body := FuncBody.stmts b, scope := s, globals := 3, closure := [], defaults := Value.none, kwdefaults := Value.none, pyModule := Value.str (Str.ofString "law_nu0186_01") 974, code := Value.ref 577 } }) ::
(nat_lit 579, { cls := Value.type "tuple", data := Data.seq #[] }) ::
(nat_lit 581, { cls := Value.type "tuple", data := Data.seq #[Value.str (Str.ofString "rows") 1041, Value.str (Str.ofString "infos") 1042, Value.str (Str.ofString "glyph") 1043, Value.str (Str.ofString "lig_id") 1044, Value.str (Str.ofString "lig_part") 1045, Value.str (Str.ofString "kind") 1046, Value.str (Str.ofString "cluster") 1047, Value.str (Str.ofString "info") 1048] }) ::
(nat_lit 582, { cls := Value.type "tuple", data := Data.seq #[] }) ::
(nat_lit 584, { cls := Value.type "code", data := Data.fields #[Value.str (Str.ofString "_law_infos") 1038, Value.str (Str.ofString "_law_infos") 1039, Value.str (Str.ofString "/claim/cut.py") 1040, Value.int 342 0, Value.int 1 0, Value.int 0 0, Value.int 0 0, Value.int 3 0, Value.ref 579, Value.bool true, Value.int 181 0, Value.ref 580, Value.none, Value.ref 581, Value.ref 582, Value.ref 583, Value.int 1049 0, Value.int 342 0, Value.str (Str.ofString "/claim/cut.py") 1050] }) ::
(nat_lit 585, mkF (nth 60 top) rfl fun a b s => { cls := Value.type "function", data := Data.func { name := Str.ofString "_law_infos", qualname := Str.ofString "_law_infos", params := a, body := FuncBody.stmts b, scope := s, globals := 3, closure := [], defaults := Value.none, kwdefaults := Value.none, pyModule := Value.str (Str.ofString "law_nu0186_01") 974, code := Value.ref 584 } }) ::
(nat_lit 586, { cls := Value.type "tuple", data := Data.seq #[] }) ::
(nat_lit 588, { cls := Value.type "tuple", data := Data.seq #[Value.str (Str.ofString "glyph") 1055] }) ::
(nat_lit 589, { cls := Value.type "tuple", data := Data.seq #[] }) ::
(nat_lit 591, { cls := Value.type "code", data := Data.fields #[Value.str (Str.ofString "_law_class") 1052, Value.str (Str.ofString "_law_class") 1053, Value.str (Str.ofString "/claim/cut.py") 1054, Value.int 351 0, Value.int 1 0, Value.int 0 0, Value.int 0 0, Value.int 3 0, Value.ref 586, Value.bool true, Value.int 181 0, Value.ref 587, Value.none, Value.ref 588, Value.ref 589, Value.ref 590, Value.int 1056 0, Value.int 351 0, Value.str (Str.ofString "/claim/cut.py") 1057] }) ::
(nat_lit 592, mkF (nth 61 top) rfl fun a b s => { cls := Value.type "function", data := Data.func { name := Str.ofString "_law_class", qualname := Str.ofString "_law_class", params := a, body := FuncBody.stmts b, scope := s, globals := 3, closure := [], defaults := Value.none, kwdefaults := Value.none, pyModule := Value.str (Str.ofString "law_nu0186_01") 974, code := Value.ref 591 } }) ::
(nat_lit 593, { cls := Value.type "tuple", data := Data.seq #[] }) ::
(nat_lit 595, { cls := Value.type "tuple", data := Data.seq #[Value.str (Str.ofString "glyph") 1062, Value.str (Str.ofString "flag") 1063] }) ::
(nat_lit 596, { cls := Value.type "tuple", data := Data.seq #[] }) ::
(nat_lit 598, { cls := Value.type "code", data := Data.fields #[Value.str (Str.ofString "_law_counts") 1059, Value.str (Str.ofString "_law_counts") 1060, Value.str (Str.ofString "/claim/cut.py") 1061, Value.int 353 0, Value.int 2 0, Value.int 0 0, Value.int 0 0, Value.int 3 0, Value.ref 593, Value.bool true, Value.int 181 0, Value.ref 594, Value.none, Value.ref 595, Value.ref 596, Value.ref 597, Value.int 1064 0, Value.int 353 0, Value.str (Str.ofString "/claim/cut.py") 1065] }) ::
(nat_lit 599, mkF (nth 62 top) rfl fun a b s => { cls := Value.type "function", data := Data.func { name := Str.ofString "_law_counts", qualname := Str.ofString "_law_counts", params := a, body := FuncBody.stmts b, scope := s, globals := 3, closure := [], defaults := Value.none, kwdefaults := Value.none, pyModule := Value.str (Str.ofString "law_nu0186_01") 974, code := Value.ref 598 } }) ::
(nat_lit 600, { cls := Value.type "tuple", data := Data.seq #[] }) ::
(nat_lit 602, { cls := Value.type "tuple", data := Data.seq #[Value.str (Str.ofString "rows") 1070, Value.str (Str.ofString "at") 1071, Value.str (Str.ofString "flag") 1072, Value.str (Str.ofString "place") 1073] }) ::
(nat_lit 603, { cls := Value.type "tuple", data := Data.seq #[] }) ::
(nat_lit 605, { cls := Value.type "code", data := Data.fields #[Value.str (Str.ofString "_law_ahead") 1067, Value.str (Str.ofString "_law_ahead") 1068, Value.str (Str.ofString "/claim/cut.py") 1069, Value.int 359 0, Value.int 3 0, Value.int 0 0, Value.int 0 0, Value.int 3 0, Value.ref 600, Value.bool true, Value.int 181 0, Value.ref 601, Value.none, Value.ref 602, Value.ref 603, Value.ref 604, Value.int 1074 0, Value.int 359 0, Value.str (Str.ofString "/claim/cut.py") 1075] }) ::
(nat_lit 606, mkF (nth 63 top) rfl fun a b s => { cls := Value.type "function", data := Data.func { name := Str.ofString "_law_ahead", qualname := Str.ofString "_law_ahead", params := a, body := FuncBody.stmts b, scope := s, globals := 3, closure := [], defaults := Value.none, kwdefaults := Value.none, pyModule := Value.str (Str.ofString "law_nu0186_01") 974, code := Value.ref 605 } }) ::
(nat_lit 607, { cls := Value.type "tuple", data := Data.seq #[] }) ::
(nat_lit 609, { cls := Value.type "tuple", data := Data.seq #[Value.str (Str.ofString "rows") 1080, Value.str (Str.ofString "place") 1081] }) ::
(nat_lit 610, { cls := Value.type "tuple", data := Data.seq #[] }) ::
(nat_lit 612, { cls := Value.type "code", data := Data.fields #[Value.str (Str.ofString "_law_is_later") 1077, Value.str (Str.ofString "_law_is_later") 1078, Value.str (Str.ofString "/claim/cut.py") 1079, Value.int 364 0, Value.int 2 0, Value.int 0 0, Value.int 0 0, Value.int 3 0, Value.ref 607, Value.bool true, Value.int 181 0, Value.ref 608, Value.none, Value.ref 609, Value.ref 610, Value.ref 611, Value.int 1082 0, Value.int 364 0, Value.str (Str.ofString "/claim/cut.py") 1083] }) ::
(nat_lit 613, mkF (nth 64 top) rfl fun a b s => { cls := Value.type "function", data := Data.func { name := Str.ofString "_law_is_later", qualname := Str.ofString "_law_is_later", params := a, body := FuncBody.stmts b, scope := s, globals := 3, closure := [], defaults := Value.none, kwdefaults := Value.none, pyModule := Value.str (Str.ofString "law_nu0186_01") 974, code := Value.ref 612 } }) ::
(nat_lit 614, { cls := Value.type "tuple", data := Data.seq #[] }) ::
(nat_lit 616, { cls := Value.type "tuple", data := Data.seq #[Value.str (Str.ofString "way") 1088, Value.str (Str.ofString "rows") 1089, Value.str (Str.ofString "at") 1090, Value.str (Str.ofString "flag") 1091, Value.str (Str.ofString "others") 1092, Value.str (Str.ofString "place") 1093, Value.str (Str.ofString "mark") 1094, Value.str (Str.ofString "other") 1095, Value.str (Str.ofString "is_right") 1096, Value.str (Str.ofString "parts") 1097] }) ::
(nat_lit 617, { cls := Value.type "tuple", data := Data.seq #[] }) ::
(nat_lit 619, { cls := Value.type "code", data := Data.fields #[Value.str (Str.ofString "_law_goal") 1085, Value.str (Str.ofString "_law_goal") 1086, Value.str (Str.ofString "/claim/cut.py") 1087, Value.int 368 0, Value.int 5 0, Value.int 0 0, Value.int 0 0, Value.int 3 0, Value.ref 614, Value.bool true, Value.int 181 0, Value.ref 615, Value.none, Value.ref 616, Value.ref 617, Value.ref 618, Value.int 1098 0, Value.int 368 0, Value.str (Str.ofString "/claim/cut.py") 1099] }) ::
(nat_lit 620, mkF (nth 65 top) rfl fun a b s => { cls := Value.type "function", data := Data.func { name := Str.ofString "_law_goal", qualname := Str.ofString "_law_goal", params := a, body := FuncBody.stmts b, scope := s, globals := 3, closure := [], defaults := Value.none, kwdefaults := Value.none, pyModule := Value.str (Str.ofString "law_nu0186_01") 974, code := Value.ref 619 } }) ::
(nat_lit 621, { cls := Value.type "tuple", data := Data.seq #[] }) ::
(nat_lit 624, { cls := Value.type "code", data := Data.fields #[Value.str (Str.ofString "law") 1101, Value.str (Str.ofString "law") 1102, Value.str (Str.ofString "/claim/cut.py") 1103, Value.int 388 0, Value.int 1 0, Value.int 0 0, Value.int 0 0, Value.int 3 0, Value.ref 621, Value.bool true, Value.int 181 0, Value.ref 622, Value.none, Value.none, Value.none, Value.ref 623, Value.int 1104 0, Value.int 388 0, Value.str (Str.ofString "/claim/cut.py") 1105] }) ::
(nat_lit 625, mkF (nth 66 top) rfl fun a b s => { cls := Value.type "function", data := Data.func { name := Str.ofString "law", qualname := Str.ofString "law", params := a, body := FuncBody.stmts b, scope := s, globals := 3, closure := [], defaults := Value.none, kwdefaults := Value.none, pyModule := Value.str (Str.ofString "law_nu0186_01") 974, code := Value.ref 624 } }) :: []

abbrev PH := Addr → Option Obj
noncomputable def Le (G G' : PH) : Prop := ∀ b o, G b = some o → G' b = some o
theorem Le.refl (G : PH) : Le G G := fun _ _ e => e
theorem Le.trans {G G' G'' : PH} (a : Le G G') (b : Le G' G'') : Le G G'' := fun x o e => b x o (a x o e)

noncomputable def QQ {α : Type} (s : Shared) (Q : α → Heap → Prop) (v : α) (s' : Shared) : Prop := ∃ h' tk', s' = { s with heap := h', toks := tk' } ∧ Q v h'
noncomputable def EE (_ : Value) (_ : Shared) : Prop := False
theorem EE.of {e : Value} {s : Shared} {P : Prop} (h : EE e s) : P := h.elim

/-- the triple over heaps: no exception, the rest of the state stays -/
structure W (prog : Program) (w : World) (s : Shared) (A : Around) (h : Heap) {α : Type} (t : Sem α) (Q : α → Heap → Prop) : Prop where
  out : ∀ tk, wpAny (model prog w) A t (QQ s Q) EE { s with heap := h, toks := tk }

section
variable {prog : Program} {w : World} {s : Shared} {A : Around} {h : Heap} {α β : Type}

theorem QQ.ok {Q : α → Heap → Prop} {v : α} {h' : Heap} {tk' : Nat} {s₀ : Shared} (e : s₀ = { s with heap := h', toks := tk' }) (q : Q v h') : QQ s Q v s₀ := ⟨h', tk', e, q⟩
theorem W.pure {a : α} {Q : α → Heap → Prop} (k : Q a h) : W prog w s A h (Pure.pure a : Sem α) Q := W.mk fun _ => wpAny_pure ⟨_, _, rfl, k⟩
theorem W.mono {t : Sem α} {Q Q' : α → Heap → Prop} (k : W prog w s A h t Q) (f : ∀ v h', Q v h' → Q' v h') : W prog w s A h t Q' :=
  W.mk fun tk => wpAny_mono (k.out tk) (fun _ _ ⟨h', tk', e, q⟩ => ⟨h', tk', e, f _ _ q⟩) fun _ _ e => e
theorem W.nest {t : Sem α} {f : α → Sem β} {Q : β → Heap → Prop} (k : W prog w s A h t (fun v h' => W prog w s A h' (f v) Q)) (tk : Nat) :
    wpAny (model prog w) A t (fun v s₁ => wpAny (model prog w) A (f v) (QQ s Q) EE s₁) EE { s with heap := h, toks := tk } :=
  wpAny_mono (k.out tk) (fun _ _ ⟨_, tk', e, q⟩ => by subst e; exact q.out tk') fun _ _ e => e
theorem W.via {t : Sem α} {Q : α → Heap → Prop} {R : α → Shared → Prop} (k : W prog w s A h t Q) (tk : Nat) (f : ∀ v h' tk', Q v h' → R v { s with heap := h', toks := tk' }) :
    wpAny (model prog w) A t R EE { s with heap := h, toks := tk } :=
  wpAny_mono (k.out tk) (fun _ _ ⟨_, _, e, q⟩ => by subst e; exact f _ _ _ q) fun _ _ e => e
theorem W.bind {t : Sem α} {f : α → Sem β} {Q : β → Heap → Prop} (k : W prog w s A h t (fun v h' => W prog w s A h' (f v) Q)) : W prog w s A h (t >>= f) Q :=
  W.mk fun tk => wpAny_bind (k.nest tk)
end

/-- the locals of a frame -/
noncomputable def al (l : List (Str × Value)) (y : Str) : Option Value := l.lookup y

/-- what is known of a frame's locals -/
noncomputable def Lc (h : Heap) (L : Addr) (l : List (Str × Value)) : Prop := ∃ m, h.Ns L m ∧ ∀ y v, al l y = some v → m y = some v
theorem Lc.keeps {h h' : Heap} {L : Addr} {l : List (Str × Value)} (x : Lc h L l) (k : ∀ b o, h.get? b = some o → h'.get? b = some o) : Lc h' L l := let ⟨m, a, b⟩ := x; ⟨m, a.keeps k, b⟩
theorem Lc.at' {h h' : Heap} {L : Addr} {l : List (Str × Value)} (x : Lc h L l) (k : ∀ o, h.get? L = some o → h'.get? L = some o) : Lc h' L l := let ⟨m, a, b⟩ := x; ⟨m, a.at' k, b⟩
theorem Lc.lt {h : Heap} {L : Addr} {l : List (Str × Value)} (x : Lc h L l) : L < h.objs.size := let ⟨_, a, _⟩ := x; a.lt
noncomputable def Has (m : Str → Option Value) : List (Str × Value) → Prop
  | [] => True
  | p :: r => m p.1 = some p.2 ∧ Has m r
theorem Has.get {m : Str → Option Value} : ∀ {l : List (Str × Value)} {y : Str} {v : Value}, Has m l → al l y = some v → m y = some v
  | [], y, v, _, e => by cases e
  | (x, u) :: r, y, v, h, e => by
    unfold al at e
    rw [List.lookup_cons] at e
    by_cases q : (y == x) = true
    · rw [q] at e; cases e; rw [beq_iff_eq.mp q]; exact h.1
    · rw [Bool.not_eq_true] at q; rw [q] at e; exact Has.get h.2 e
structure Fm (G : PH) (L : Addr) (N : List (Addr × Obj)) (h : Heap) (l : List (Str × Value)) : Prop where
  ns : Lc h L l
  keep : Le G h.get?
  off : G L = none
  nw : ∀ p ∈ N, h.get? p.1 = some p.2 ∧ G p.1 = none ∧ p.1 ≠ L
  nd : (N.map (·.1)).Nodup

/-- what stands since the start -/
structure Stat0 (K : Frag) (mg mb : Str → Option Value) (h : Heap) : Prop where
  K : K.In h
  g : h.Ns mainGlobals mg
  b : h.Ns builtinsNs mb
  nolimit : h.NoLimit
  builtins : ∀ x : Str, x ≠ "__name__" → mb x = bootBuiltins x
theorem Stat0.keeps {K : Frag} {mg mb : Str → Option Value} {h h' : Heap} (S : Stat0 K mg mb h) (k : Le h.get? h'.get?) : Stat0 K mg mb h' :=
  ⟨S.K.keeps k, S.g.keeps k, S.b.keeps k, S.nolimit.keeps k, S.builtins⟩
noncomputable def Stat (K : Frag) (mg mb : Str → Option Value) (G : PH) : Prop := ∃ h₀ : Heap, Stat0 K mg mb h₀ ∧ Le h₀.get? G
theorem Stat.mono {K : Frag} {mg mb : Str → Option Value} {G G' : PH} (S : Stat K mg mb G) (k : Le G G') : Stat K mg mb G' := let ⟨h₀, a, b⟩ := S; ⟨h₀, a, b.trans k⟩
theorem Stat.at {K : Frag} {mg mb : Str → Option Value} {G : PH} {h : Heap} (S : Stat K mg mb G) (k : Le G h.get?) : Stat0 K mg mb h := let ⟨_, a, b⟩ := S; a.keeps (b.trans k)

/-- room: no exception at hand, frames and C units left -/
structure Rm (A : Around) (n : Nat) : Prop where
  hd : A.handled = none
  depth : A.depth + n < recursionLimit
  units : A.units + 10 * n < cLine
theorem Rm.le {A : Around} {n m : Nat} (r : Rm A n) (h : m ≤ n) : Rm A m := ⟨r.hd, Nat.lt_of_le_of_lt (Nat.add_le_add_left h _) r.depth, Nat.lt_of_le_of_lt (Nat.add_le_add_left (Nat.mul_le_mul_left _ h) _) r.units⟩
theorem Rm.deeper {A : Around} {n : Nat} {env : Env} (r : Rm A (n + 1)) : Rm (A.deeper env) n := by
  obtain ⟨a, b, c⟩ := r
  refine ⟨a, ?_, ?_⟩
  · show A.depth + 1 + n < _; omega
  · show A.units + 3 + 10 * n < _; omega
theorem Rm.in1 {A : Around} {n : Nat} (r : Rm A (n + 1)) : Rm A.in1 n := by
  obtain ⟨a, b, c⟩ := r
  refine ⟨a, ?_, ?_⟩
  · show A.depth + n < _; omega
  · show A.units + 1 + 10 * n < _; omega
theorem Rm.d {A : Around} {n : Nat} (r : Rm A n) : A.depth < recursionLimit := Nat.lt_of_le_of_lt (Nat.le_add_right _ _) r.depth
theorem Rm.u {A : Around} {n : Nat} (r : Rm A n) : A.units < cLine := Nat.lt_of_le_of_lt (Nat.le_add_right _ _) r.units

section
variable {G : PH} {L : Addr} {N : List (Addr × Obj)} {h h' : Heap} {l : List (Str × Value)}
/-- what is no more wanted of the locals is forgotten -/
theorem Fm.to {l : List (Str × Value)} (F : Fm G L N h l) (l' : List (Str × Value)) (k : Has (al l) l') : Fm G L N h l' :=
  ⟨let ⟨m, a, b⟩ := F.ns; ⟨m, a, fun y v e => b y v (k.get e)⟩, F.keep, F.off, F.nw, F.nd⟩
theorem Heap.get?_size_none (h : Heap) : h.get? h.objs.size = none := by
  cases q : h.get? h.objs.size with
  | none => rfl
  | some o => exact absurd (Heap.lt_size q) (Nat.lt_irrefl _)
theorem Fm.keeps (F : Fm G L N h l) (k : Le h.get? h'.get?) : Fm G L N h' l :=
  ⟨F.ns.keeps k, F.keep.trans k, F.off, fun p hp => ⟨k _ _ (F.nw p hp).1, (F.nw p hp).2⟩, F.nd⟩
theorem Fm.push (F : Fm G L N h l) (o : Obj) : Fm G L N (h.push o) l := F.keeps fun _ _ e => Heap.get?_push_of_some o e
theorem Fm.alloc (F : Fm G L N h l) (o : Obj) (hf : o.isFreed = false := by rfl) : Fm G L ((h.objs.size, o) :: N) (h.push o) l := by
  have P := F.push o
  have gn : G h.objs.size = none := by
    cases q : G h.objs.size with
    | none => rfl
    | some o' => have := F.keep _ _ q; rw [Heap.get?_size_none] at this; cases this
  refine ⟨P.ns, P.keep, P.off, fun p hp => ?_, ?_⟩
  · rcases List.mem_cons.mp hp with rfl | hp
    · exact ⟨Heap.get?_push_size _ hf, gn, Nat.ne_of_gt F.ns.lt⟩
    · exact P.nw p hp
  · rw [List.map_cons, List.nodup_cons]
    refine ⟨fun hm => ?_, F.nd⟩
    obtain ⟨p, hp, e⟩ := List.mem_map.mp hm
    have := (F.nw p hp).1
    rw [e, Heap.get?_size_none] at this; cases this
theorem Fm.drop {p : Addr × Obj} (F : Fm G L (p :: N) h l) : Fm G L N h l :=
  ⟨F.ns, F.keep, F.off, fun q hq => F.nw q (.tail _ hq), (List.nodup_cons.mp (by simpa using F.nd)).2⟩
theorem Fm.get {a : Addr} {o : Obj} (F : Fm G L N h l) (hm : (a, o) ∈ N) : h.get? a = some o := (F.nw _ hm).1

/-- the whole of the heap but the frame and the ledger: a base as large as can be -/
noncomputable def offAll (as : List Addr) (h : Heap) : PH := fun b => if b ∈ as then none else h.get? b
theorem offAll_le {as : List Addr} : Le (offAll as h) h.get? := fun b o e => by
  unfold offAll at e; split at e
  · cases e
  · exact e
theorem offAll_in {as : List Addr} {b : Addr} (hb : b ∈ as) : offAll as h b = none := by unfold offAll; rw [if_pos hb]
theorem offAll_out {as : List Addr} {b : Addr} (hb : b ∉ as) : offAll as h b = h.get? b := by unfold offAll; rw [if_neg hb]
theorem le_offAll {as : List Addr} (k : Le G h.get?) (hn : ∀ a ∈ as, G a = none) : Le G (offAll as h) := fun b o e => by
  rw [offAll_out]
  · exact k b o e
  · intro hb; rw [hn b hb] at e; cases e
theorem Fm.rebase (F : Fm G L N h l) : Le G (offAll (L :: N.map (·.1)) h) ∧ Fm (offAll (L :: N.map (·.1)) h) L N h l := by
  refine ⟨le_offAll F.keep ?_, F.ns, offAll_le, offAll_in (.head _), fun p hp => ⟨(F.nw p hp).1, offAll_in (.tail _ (List.mem_map_of_mem hp)), (F.nw p hp).2.2⟩, F.nd⟩
  intro a ha
  rcases List.mem_cons.mp ha with rfl | ha
  · exact F.off
  · obtain ⟨p, hp, rfl⟩ := List.mem_map.mp ha
    exact (F.nw p hp).2.1
end
/- continuations by name: no binder stands in a goal -/
section
variable (prog : Program) (w : World) (s : Shared) (A : Around)
abbrev K0 {α β : Type} (t : Sem β) (Q : β → Heap → Prop) : α → Heap → Prop := fun _ h => W prog w s A h t Q
abbrev Kt {α β : Type} (f : α → Sem β) (Q : β → Heap → Prop) : α → Heap → Prop := fun v h => W prog w s A h (f v) Q
abbrev K2 {α β γ : Type} (t : Sem β) (f : α → β → Sem γ) (Q : γ → Heap → Prop) : α → Heap → Prop := fun u h => W prog w s A h t (Kt prog w s A (f u) Q)
abbrev Kif {β : Type} (t e : Sem β) (Q : β → Heap → Prop) : Bool → Heap → Prop := fun b h => (b = true → W prog w s A h t Q) ∧ (b = false → W prog w s A h e Q)
abbrev Ktv {β : Type} (t : Sem β) (v : β) (Q : β → Heap → Prop) : Bool → Heap → Prop := fun b h => (b = true → W prog w s A h t Q) ∧ (b = false → Q v h)
abbrev Kvt {β : Type} (v : β) (t : Sem β) (Q : β → Heap → Prop) : Bool → Heap → Prop := fun b h => (b = true → Q v h) ∧ (b = false → W prog w s A h t Q)
abbrev Krt (Q : Flow → Heap → Prop) : Value → Heap → Prop := fun v h => Q (.ret v) h
abbrev Knot (Q : Bool → Heap → Prop) : Bool → Heap → Prop := fun c h => Q (!c) h
abbrev Knb (Q : Value → Heap → Prop) : Bool → Heap → Prop := fun c h => Q (.bool (!c)) h
abbrev Kcons {α : Type} (v : α) (Q : List α → Heap → Prop) : List α → Heap → Prop := fun vs h => Q (v :: vs) h
abbrev Kit (t : Sem (List Value)) (Q : List Value → Heap → Prop) : Value → Heap → Prop := fun v h => W prog w s A h t (Kcons v Q)
abbrev Kga (attr : Str) (Q : Value → Heap → Prop) : Value → Heap → Prop := fun o h => W prog w s A h (getAttr o attr true) Q
noncomputable def Kcw (pos : Pos) (T : List (Bool × Sem Value)) (Q : Value → Heap → Prop) : Value × List Value → Heap → Prop := fun fx h => W prog w s A h (callWith pos fx.1 fx.2 T []) Q
abbrev Kgm (name : Str) (pl : Sem Bool) (Q : Value × List Value → Heap → Prop) : Value → Heap → Prop := fun ov h => W prog w s A h (getMethod ov name pl) Q
abbrev Kc1 (pos : Pos) (T : List (Bool × Sem Value)) (Q : Value → Heap → Prop) : Value → Heap → Prop := fun f h => W prog w s A h (callWith pos f [] T []) Q
noncomputable def Kin (K : Frag) (f : Value) (first : List Value) (Q : Value → Heap → Prop) : List Value → Heap → Prop := fun vs h => K.In h ∧ W prog w s A h (call f (first ++ vs)) Q
noncomputable def Kcl (f : Value) (first : List Value) (Q : Value → Heap → Prop) : List Value → Heap → Prop := fun vs h => W prog w s A h (call f (first ++ vs)) Q
abbrev Ktc (pos : Pos) (ops : List CmpOp) (rs : List (Sem Value)) (Q : Bool → Heap → Prop) : Value → Heap → Prop := fun u h => W prog w s A h (testChain pos u ops rs) Q
abbrev Ktl (pos : Pos) (op : CmpOp) (a : Value) (ops : List CmpOp) (rs : List (Sem Value)) (Q : Bool → Heap → Prop) : Value → Heap → Prop := fun b h => W prog w s A h (compareOp op a b) (Kt prog w s A truthy (Ktv prog w s A (testChain pos b ops rs) false Q))
abbrev Kand (t : Sem Value) (Q : Value → Heap → Prop) : Value → Heap → Prop := fun v h => W prog w s A h (truthy v) (Ktv prog w s A t v Q)
abbrev Kor (t : Sem Value) (Q : Value → Heap → Prop) : Value → Heap → Prop := fun v h => W prog w s A h (truthy v) (Kvt prog w s A v t Q)
abbrev Kcc (pos : Pos) (ops : List CmpOp) (rs : List (Sem Value)) (Q : Value → Heap → Prop) : Value → Heap → Prop := fun u h => W prog w s A h (compareChain pos u ops rs) Q
abbrev Kcm (pos : Pos) (b : Value) (ops : List CmpOp) (rs : List (Sem Value)) (Q : Value → Heap → Prop) : Value → Heap → Prop := fun c h => W prog w s A h (truthy c) (Ktv prog w s A (compareChain pos b ops rs) c Q)
abbrev Kcn (pos : Pos) (op : CmpOp) (u : Value) (ops : List CmpOp) (rs : List (Sem Value)) (Q : Value → Heap → Prop) : Value → Heap → Prop := fun b h => W prog w s A h (compareOp op u b) (Kcm prog w s A pos b ops rs Q)
abbrev Ksb (attr : Str) (v : Value) (Q : Unit → Heap → Prop) : Value → Heap → Prop := fun ov h => W prog w s A h (setAttr ov attr v) Q
abbrev Ksa (t : Sem Value) (attr : Str) (Q : Unit → Heap → Prop) : Value → Heap → Prop := fun v h => W prog w s A h t (Ksb prog w s A attr v Q)
abbrev Ksk (ov v : Value) (Q : Unit → Heap → Prop) : Value → Heap → Prop := fun iv h => W prog w s A h (setItem ov iv v) Q
abbrev Ksj (u : Sem Value) (v : Value) (Q : Unit → Heap → Prop) : Value → Heap → Prop := fun ov h => W prog w s A h u (Ksk prog w s A ov v Q)
abbrev Ksi (t u : Sem Value) (Q : Unit → Heap → Prop) : Value → Heap → Prop := fun v h => W prog w s A h t (Ksj prog w s A u v Q)
noncomputable def Kao (ts : List (Value → Sem Unit)) (Q : Unit → Heap → Prop) : List Value → Heap → Prop := fun items h => W prog w s A h (assignInOrder ts items.reverse) Q
abbrev Kun (n : Nat) (ts : List (Value → Sem Unit)) (Q : Unit → Heap → Prop) : Value → Heap → Prop := fun v h => W prog w s A h (unpackItems v n none) (Kao prog w s A ts Q)
abbrev Kp2 (u : Value) (T : Sem (List (Value × Value))) (Q : List (Value × Value) → Heap → Prop) : Value → Heap → Prop := fun v h => W prog w s A h T (Kcons (u, v) Q)
abbrev Kpr (t : Sem Value) (T : Sem (List (Value × Value))) (Q : List (Value × Value) → Heap → Prop) : Value → Heap → Prop := fun u h => W prog w s A h t (Kp2 prog w s A u T Q)
end

section
variable {prog : Program} {w : World} {s : Shared} {A : Around} {h : Heap} {env : Env}
variable {G : PH} {L : Addr} {N : List (Addr × Obj)} {l : List (Str × Value)}
variable {K : Frag} {mg mb : Str → Option Value}

theorem execs_append (a b : List Stmt) : execs (a ++ b) env = (do match ← execs a env with | .next => execs b env | f => pure f) := by
  induction a with
  | nil => rw [List.nil_append]; show _ = (Pure.pure Flow.next >>= fun f => match f with | .next => execs b env | f => pure f); rw [pure_bind]
  | cons x r ih =>
    rw [List.cons_append, arm_execs_cons, arm_execs_cons, bind_assoc]
    congr 1; funext f
    cases f with
    | next => rw [ih]
    | brk => show _ = (Pure.pure Flow.brk >>= _); rw [pure_bind]
    | cont => show _ = (Pure.pure Flow.cont >>= _); rw [pure_bind]
    | ret v => show _ = (Pure.pure (Flow.ret v) >>= _); rw [pure_bind]

theorem w_nil {Q : Flow → Heap → Prop} (k : Q .next h) : W prog w s A h (execs [] env) Q := W.mk fun _ => wpAny_execs_nil ⟨_, _, rfl, k⟩
theorem w_cons {st : Stmt} {rest : List Stmt} {Q : Flow → Heap → Prop}
    (k : W prog w s A h (exec st env) (fun f h' => match f with | .next => W prog w s A h' (execs rest env) Q | f => Q f h')) : W prog w s A h (execs (st :: rest) env) Q :=
  W.mk fun tk => wpAny_execs_cons (k.via tk fun f h' tk' q => by
    cases f with
    | next => exact q.out tk'
    | brk => exact ⟨_, _, rfl, q⟩
    | cont => exact ⟨_, _, rfl, q⟩
    | ret v => exact ⟨_, _, rfl, q⟩)
/-- a statement that goes on -/
theorem w_then {st : Stmt} {rest : List Stmt} {Q : Flow → Heap → Prop}
    (k : W prog w s A h (exec st env) (fun f h' => f = .next ∧ W prog w s A h' (execs rest env) Q)) : W prog w s A h (execs (st :: rest) env) Q :=
  w_cons (k.mono fun f h' q => by obtain ⟨rfl, q⟩ := q; exact q)
theorem w_return {e : Expr} {pos : Pos} {rest : List Stmt} {Q : Flow → Heap → Prop} (k : W prog w s A h (eval e env) (Krt Q)) :
    W prog w s A h (execs (.Return (some e) pos :: rest) env) Q :=
  w_cons <| W.mk fun tk => wpAny_Return_some (k.via tk fun _ _ _ q => ⟨_, _, rfl, q⟩)
theorem w_return0 {pos : Pos} {rest : List Stmt} {Q : Flow → Heap → Prop} (k : Q (.ret .none) h) :
    W prog w s A h (execs (.Return none pos :: rest) env) Q :=
  w_cons <| W.mk fun _ => wpAny_Return_none ⟨_, _, rfl, k⟩
theorem w_assign {x : Str} {p' pos : Pos} {value : Expr} {rest : List Stmt} {Q : Flow → Heap → Prop}
    (k : W prog w s A h (eval value env) (Kt prog w s A (storeName env x) (K0 prog w s A (execs rest env) Q)))
    (hs : swapsWith value (some (.Name x p')) pos.line env = pure false := by with_unfolding_all rfl) : W prog w s A h (execs (.Assign [.Name x p'] value pos :: rest) env) Q :=
  w_then <| W.mk fun tk => wpAny_Assign_Name (k.via tk fun v h' tk' q => q.via tk' fun _ _ _ q => ⟨_, _, rfl, rfl, q⟩) hs
theorem w_if {test : Expr} {body orelse : List Stmt} {pos : Pos} {rest : List Stmt} {Q : Flow → Heap → Prop}
    (k : W prog w s A h (isTrue test env (eval test env)) (Kif prog w s A (execs (body ++ rest) env) (execs (orelse ++ rest) env) Q)) :
    W prog w s A h (execs (.If test body orelse pos :: rest) env) Q := by
  refine W.mk fun tk => ?_
  have e : execs (.If test body orelse pos :: rest) env = (do standAt pos; if ← isTrue test env (eval test env) then execs (body ++ rest) env else execs (orelse ++ rest) env) := by
    rw [arm_execs_cons, exec_If, bind_assoc]
    congr 1; funext _
    rw [bind_assoc]
    congr 1; funext b
    cases b
    · simp only [Bool.false_eq_true, if_false]; rw [execs_append]; rfl
    · simp only [if_true]; rw [execs_append]; rfl
  rw [e]
  refine wpAny_bind (wpAny_standAt (wpAny_bind (k.via tk fun b h' tk' q => ?_)))
  cases b
  · simp only [Bool.false_eq_true, if_false]; exact (q.2 rfl).out tk'
  · simp only [if_true]; exact (q.1 rfl).out tk'

/-- names -/
theorem w_local {x : Str} {pos : Pos} {v : Value} {Q : Value → Heap → Prop} (k : Q v h) (F : Fm G L N h l := by walk_at "as") (hv : al l x = some v := by exact rfl)
    (hL : env.locals = L := by with_unfolding_all rfl) (hk : env.scope.kind = .function := by with_unfolding_all rfl) (hl : env.kindOf x = some .local := by with_unfolding_all rfl) (hd : (x == ("__debug__" : Str)) = false := by decide) :
    W prog w s A h (eval (.Name x pos) env) Q := W.mk fun _ => let ⟨m, a, b⟩ := F.ns; wpAny_Name (wpAny_loadName_local hk hl (hL ▸ a) (b _ _ hv) ⟨_, _, rfl, k⟩) hd
theorem w_store {x : Str} {v : Value} {Q : Unit → Heap → Prop} (F : Fm G L N h l) (k : ∀ h', Fm G L N h' ((x, v) :: l) → Q () h')
    (hL : env.locals = L := by with_unfolding_all rfl) (hk : env.scope.kind = .function := by with_unfolding_all rfl) (hl : env.kindOf x = some .local := by with_unfolding_all rfl) :
    W prog w s A h (storeName env x v) Q := W.mk fun tk => by
  obtain ⟨m, hm, kn⟩ := F.ns
  refine wpAny_storeName_local hl (hL ▸ hm) (fun h' hn hs => ⟨_, _, rfl, k h' ?_⟩) (by
      show (env.scope.kind == .class || (env.scope.kind == .module && env.locals != env.globals)) = false; rw [hk]; rfl)
  subst hL
  refine ⟨⟨_, hn, fun y u e => ?_⟩, fun b o e => (hs.2 b (fun q => ?_)).trans (F.keep b o e), F.off, fun p hp => ⟨(hs.2 _ (F.nw p hp).2.2).trans (F.nw p hp).1, (F.nw p hp).2⟩, F.nd⟩
  · unfold al at e
    rw [List.lookup_cons] at e
    by_cases hy : y = x
    · subst hy; simp at e; simp [e]
    · have : (y == x) = false := beq_eq_false_iff_ne.mpr hy
      rw [this] at e
      simp only [hy, if_false]
      exact kn y u e
  · have := F.off; rw [← q, e] at this; cases this
theorem w_global {x : Str} {pos : Pos} {v : Value} {Q : Value → Heap → Prop} (k : Q v h) (F : Fm G L N h l := by walk_at "as") (S : Stat K mg mb G := by walk_at "as") (e : nsIn K mainGlobals x = some (some v) := by k_is)
    (hg : env.globals = mainGlobals := by with_unfolding_all rfl) (hk : env.scope.kind = .function := by with_unfolding_all rfl) (hx : env.kindOf x = some .globalImplicit := by with_unfolding_all rfl) (hd : (x == ("__debug__" : Str)) = false := by decide) :
    W prog w s A h (eval (.Name x pos) env) Q := W.mk fun tk => by
  refine Calls.Name_function_global hk hx ?_ hd
  refine Calls.loadGlobal_global (env := env) (mg := mg) (v := v) ?_ (mg_of (S.at F.keep).K (S.at F.keep).g e) ⟨_, _, rfl, k⟩
  rw [hg]; exact (S.at F.keep).g
theorem w_builtin {x : Str} {pos : Pos} {v : Value} {Q : Value → Heap → Prop} (k : Q v h) (F : Fm G L N h l := by walk_at "as") (S : Stat K mg mb G := by walk_at "as") (e : nsIn K mainGlobals x = some none := by k_is) (hv : bootBuiltins x = some v := by boot_by_name) (hn : x ≠ "__name__" := by decide)
    (hg : env.globals = mainGlobals := by with_unfolding_all rfl) (hb : env.builtins = builtinsNs := by with_unfolding_all rfl) (hk : env.scope.kind = .function := by with_unfolding_all rfl) (hx : env.kindOf x = some .globalImplicit := by with_unfolding_all rfl) (hd : (x == ("__debug__" : Str)) = false := by decide) :
    W prog w s A h (eval (.Name x pos) env) Q := W.mk fun tk => by
  refine Calls.Name_function_global hk hx ?_ hd
  refine Calls.loadGlobal_builtin (env := env) (mg := mg) (mb := mb) (v := v) ?_ (mg_none_of (S.at F.keep).K (S.at F.keep).g e) ?_ (((S.at F.keep).builtins x hn).trans hv) ⟨_, _, rfl, k⟩
  · rw [hg]; exact (S.at F.keep).g
  · rw [hb]; exact (S.at F.keep).b
/-- constants -/
theorem w_int {i : Int} {kd : Nat} {pos : Pos} {Q : Value → Heap → Prop} (k : ∀ t, Q (.int i t) h) : W prog w s A h (eval (.Constant (.int i) kd pos) env) Q := W.mk fun _ => wpAny_Constant_int ⟨_, _, rfl, k _⟩
theorem w_str {x : Str} {kd : Nat} {pos : Pos} {Q : Value → Heap → Prop} (k : ∀ t, Q (.str x t) h) : W prog w s A h (eval (.Constant (.str x) kd pos) env) Q := W.mk fun _ => wpAny_Constant_str ⟨_, _, rfl, k _⟩
theorem w_bool {x : Bool} {kd : Nat} {pos : Pos} {Q : Value → Heap → Prop} (k : Q (.bool x) h) : W prog w s A h (eval (.Constant (.bool x) kd pos) env) Q := W.mk fun _ => Constant_bool ⟨_, _, rfl, k⟩
theorem w_none {kd : Nat} {pos : Pos} {Q : Value → Heap → Prop} (k : Q .none h) : W prog w s A h (eval (.Constant .none kd pos) env) Q := W.mk fun _ => Constant_none ⟨_, _, rfl, k⟩
/-- operators -/
theorem w_binop {a b : Expr} {op : Operator} {pos : Pos} {Q : Value → Heap → Prop} (k : W prog w s A h (eval a env) (K2 prog w s A (eval b env) (binaryOp op) Q)) :
    W prog w s A h (eval (.BinOp a op b pos) env) Q := W.mk fun tk => wpAny_BinOp (k.via tk fun _ _ tk' q => q.nest tk')
theorem w_add {a b : Int} {t u : Tok} {Q : Value → Heap → Prop} (k : ∀ t, Q (.int (a + b) t) h) : W prog w s A h (binaryOp .Add (.int a t) (.int b u)) Q := W.mk fun _ => add_int ⟨_, _, rfl, k _⟩
theorem w_minus {a b : Int} {t u : Tok} {Q : Value → Heap → Prop} (k : ∀ t, Q (.int (a - b) t) h) : W prog w s A h (binaryOp .Sub (.int a t) (.int b u)) Q := W.mk fun _ => sub_int ⟨_, _, rfl, k _⟩
theorem w_mod {a b : Int} {t u : Tok} {Q : Value → Heap → Prop} (k : ∀ t, Q (.int (a % b) t) h) (hb : 0 < b := by walk_at "om") : W prog w s A h (binaryOp .Mod (.int a t) (.int b u)) Q := W.mk fun _ => mod_int (Int.ne_of_gt hb) ⟨_, _, rfl, by rw [Int.fmod_eq_emod_of_nonneg _ (Int.le_of_lt hb)]; exact k _⟩
theorem w_unary {a : Expr} {op : UnaryOp} {pos : Pos} {Q : Value → Heap → Prop} (k : W prog w s A h (eval a env) (Kt prog w s A (unaryOp op) Q)) :
    W prog w s A h (eval (.UnaryOp op a pos) env) Q := W.mk fun tk => UnaryOp_ (k.nest tk)
/-- tests -/
theorem w_cmp {a b : Expr} {op : CmpOp} {pos : Pos} {Q : Value → Heap → Prop} (k : W prog w s A h (eval a env) (K2 prog w s A (eval b env) (compareOp op) Q))
    (hm : behindInMarks op b = false := by with_unfolding_all rfl) : W prog w s A h (eval (.Compare a [op] [b] pos) env) Q := W.mk fun tk => wpAny_Compare1 (k.via tk fun _ _ tk' q => q.nest tk') hm
theorem w_tcmp {a b : Expr} {op : CmpOp} {pos : Pos} {wh : Sem Value} {Q : Bool → Heap → Prop}
    (k : W prog w s A h (eval a env) (K2 prog w s A (eval b env) (compareOp op) (Kt prog w s A truthy Q)))
    (hm : behindInMarks op b = false := by with_unfolding_all rfl) : W prog w s A h (isTrue (.Compare a [op] [b] pos) env wh) Q := W.mk fun tk => wpAny_isTrue_Compare1 (k.via tk fun _ _ tk' q => q.via tk' fun _ _ tk'' q => q.nest tk'') hm
theorem w_tbool {b : Bool} {Q : Bool → Heap → Prop} (k : Q b h) : W prog w s A h (truthy (.bool b)) Q := W.mk fun _ => wpAny_truthy_bool ⟨_, _, rfl, k⟩
theorem w_tnot {e : Expr} {pos : Pos} {wh : Sem Value} {Q : Bool → Heap → Prop} (k : W prog w s A h (isTrue e env (eval e env)) (Knot Q)) : W prog w s A h (isTrue (.UnaryOp .Not e pos) env wh) Q :=
  W.mk fun tk => isTrue_not (k.via tk fun _ _ _ q => ⟨_, _, rfl, q⟩)
theorem w_tand0 {pos : Pos} {wh : Sem Value} {Q : Bool → Heap → Prop} (k : Q true h) : W prog w s A h (isTrue (.BoolOp .And [] pos) env wh) Q := W.mk fun _ => isTrue_and_nil ⟨_, _, rfl, k⟩
theorem w_tor0 {pos : Pos} {wh : Sem Value} {Q : Bool → Heap → Prop} (k : Q false h) : W prog w s A h (isTrue (.BoolOp .Or [] pos) env wh) Q := W.mk fun _ => isTrue_or_nil ⟨_, _, rfl, k⟩
theorem w_tand {x : Expr} {rest : List Expr} {pos : Pos} {wh : Sem Value} {Q : Bool → Heap → Prop}
    (k : W prog w s A h (isTrue x env (eval x env)) (Ktv prog w s A (isTrue (.BoolOp .And rest pos) env wh) false Q)) : W prog w s A h (isTrue (.BoolOp .And (x :: rest) pos) env wh) Q :=
  W.mk fun tk => isTrue_and (k.via tk fun c _ tk' q => by
    cases c
    · exact ⟨_, _, rfl, q.2 rfl⟩
    · exact (q.1 rfl).out tk')
theorem w_tor {x : Expr} {rest : List Expr} {pos : Pos} {wh : Sem Value} {Q : Bool → Heap → Prop}
    (k : W prog w s A h (isTrue x env (eval x env)) (Kvt prog w s A true (isTrue (.BoolOp .Or rest pos) env wh) Q)) : W prog w s A h (isTrue (.BoolOp .Or (x :: rest) pos) env wh) Q :=
  W.mk fun tk => isTrue_or (k.via tk fun c _ tk' q => by
    cases c
    · exact (q.2 rfl).out tk'
    · exact ⟨_, _, rfl, q.1 rfl⟩)
theorem w_tplain {e : Expr} {wh : Sem Value} {Q : Bool → Heap → Prop} (k : W prog w s A h wh (Kt prog w s A truthy Q))
    (he : isTrue e env wh = (do let v ← wh; standAt e.pos; holding [v] (truthy v)) := by with_unfolding_all rfl) : W prog w s A h (isTrue e env wh) Q := W.mk fun tk => isTrue_plain (k.nest tk) he
theorem w_ifexp {t b o : Expr} {pos : Pos} {Q : Value → Heap → Prop}
    (k : W prog w s A h (isTrue t env (eval t env)) (Kif prog w s A (eval b env) (eval o env) Q)) : W prog w s A h (eval (.IfExp t b o pos) env) Q :=
  W.mk fun tk => IfExp_ (k.via tk fun c _ tk' q => by
    cases c
    · exact (q.2 rfl).out tk'
    · exact (q.1 rfl).out tk')
theorem w_lt {a b : Int} {t u : Tok} {Q : Value → Heap → Prop} (k : Q (.bool (decide (a < b))) h) : W prog w s A h (compareOp .Lt (.int a t) (.int b u)) Q := W.mk fun _ => lt_int ⟨_, _, rfl, k⟩
theorem w_gt {a b : Int} {t u : Tok} {Q : Value → Heap → Prop} (k : Q (.bool (decide (b < a))) h) : W prog w s A h (compareOp .Gt (.int a t) (.int b u)) Q := W.mk fun _ => gt_int ⟨_, _, rfl, k⟩
theorem w_eq {a b : Int} {t u : Tok} {Q : Value → Heap → Prop} (k : Q (.bool (decide (a = b))) h) : W prog w s A h (compareOp .Eq (.int a t) (.int b u)) Q := W.mk fun _ => eq_int ⟨_, _, rfl, by
  have e : (a == b) = decide (a = b) := by by_cases q : a = b <;> simp [q]
  rw [e]; exact k⟩
theorem w_ne {a b : Int} {t u : Tok} {Q : Value → Heap → Prop} (k : Q (.bool (decide (a ≠ b))) h) : W prog w s A h (compareOp .NotEq (.int a t) (.int b u)) Q := W.mk fun _ => ne_int ⟨_, _, rfl, by
  have e : (a != b) = decide (a ≠ b) := by by_cases q : a = b <;> simp [q]
  rw [e]; exact k⟩
end

theorem seqIx {j : Int} {n : Nat} (h0 : 0 ≤ j) (h1 : j < n) : seqIndex? j n = some j.toNat := by
  unfold seqIndex?
  simp only []
  have e : ¬ j < 0 := by omega
  have e' : (decide (0 ≤ j) && decide (j < n)) = true := by simp; omega
  simp only [e, if_false]
  rw [if_pos e']
noncomputable def RR (s : Shared) (Q : Value → Heap → Prop) (r : Result) (s' : Shared) : Prop := match r with
  | .ok (.ret v) => QQ s Q v s'
  | _ => False
structure Wc (prog : Program) (w : World) (s : Shared) (A : Around) (h : Heap) (c : Code) (Q : Value → Heap → Prop) : Prop where
  out : ∀ tk, codeAny (model prog w) A c (RR s Q) { s with heap := h, toks := tk }

section
variable {prog : Program} {w : World} {s : Shared} {A : Around} {h : Heap} {env : Env}
variable {G : PH} {L : Addr} {N : List (Addr × Obj)} {l : List (Str × Value)}
variable {K : Frag} {mg mb : Str → Option Value}

theorem wc_w {f : Value} {pos : List Value} {kw : List (Str × Value)} {Q : Value → Heap → Prop} (k : Wc prog w s A h (.call f ⟨pos, kw⟩) Q) : W prog w s A h (call f pos kw) Q :=
  W.mk fun tk => wpAny_call (codeAny_mono (k.out tk) fun r s' q => by
    cases r with
    | error e => exact q.elim
    | ok f => cases f <;> first | exact q | exact q.elim)

/-- a flow's value -/
noncomputable def rv : Flow → Value
  | .ret v => v
  | _ => .none
abbrev Krv (Q : Value → Heap → Prop) : Flow → Heap → Prop := fun fl h => Q (rv fl) h

theorem wc_def {name qual : Str} {params : Arguments} {body : List Stmt} {scope : Scope} {dV kV doc pm cdv ct oc : Value} {an od : Option Addr} {osl : Array (Option Value)} {f : Addr} {args : Args} {binds : List (Str × Value)} {Q : Value → Heap → Prop}
    (hG : Le G h.get?) (S : Stat K mg mb G) (hN : ∀ p ∈ N, h.get? p.1 = some p.2 ∧ G p.1 = none) (hnd : (N.map (·.1)).Nodup) (hd : A.depth < recursionLimit)
    (ho : K.lookup f = some ⟨oc, od, .func (fnOf name qual params body scope dV kV doc pm an cdv ct), osl⟩) (hcd : codeIn K cdv qual = true)
    (hbind : ∀ tk, BindsTo ({ s with heap := h, toks := tk } : Shared) (fnOf name qual params body scope dV kV doc pm an cdv ct) args binds) (hloc : ∀ y ∈ binds, scope.names.lookup y.1 = some .local)
    (hcell : ∀ x ∈ scope.names, x.2 ≠ .cell) (hco : scope.isCoroutine = false) (hgen : scope.isGenerator = false) (hk : scope.kind = .function)
    (k : ∀ L h₁, Le h.get? h₁.get? → Fm G L N h₁ binds.reverse → W prog w s (A.deeper (envOf qual scope L f cdv)) h₁ (execs body (envOf qual scope L f cdv)) (Krv Q)) :
    Wc prog w s A h (.call (.ref f) args) Q := by
  refine Wc.mk fun tk => ?_
  have S0 := S.at hG
  refine codeAny_call_def (fd := fnOf name qual params body scope dV kV doc pm an cdv ct) (body := body) (binds := binds) hd (S0.K _ _ ho) rfl S0.nolimit (codeRec_of S0.K hcd) rfl (hbind tk) hcell hloc (fun h₁ hns hk₁ => ?_) hco hgen hk
  have off : G h.objs.size = none := by
    cases q : G h.objs.size with
    | none => rfl
    | some o' => have := hG _ _ q; rw [Heap.get?_size_none] at this; cases this
  have F : Fm G h.objs.size N h₁ binds.reverse := ⟨⟨_, hns, fun _ _ e => e⟩, hG.trans hk₁, off, fun p hp => ⟨hk₁ _ _ (hN p hp).1, (hN p hp).2, Nat.ne_of_lt (Heap.lt_size (hN p hp).1)⟩, hnd⟩
  refine wpAny_mono ((k _ _ hk₁ F).out (tk + binds.length)) (fun fl s' q => ?_) fun _ _ e => e.elim
  obtain ⟨h', tk', e, q⟩ := q
  exact ⟨h', tk', e, by cases fl <;> exact q⟩

noncomputable def zipA : List Arg → List Value → List (Str × Value) → List (Str × Value)
  | a :: as, v :: vs, acc => zipA as vs ((a.arg, v) :: acc)
  | _, _, acc => acc
theorem zipA_eq : ∀ (as : List Arg) (vs : List Value) (acc : List (Str × Value)), zipA as vs acc = ((as.map (·.arg)).zip vs).reverse ++ acc
  | [], _, _ => by simp [zipA]
  | _ :: _, [], _ => by simp [zipA]
  | a :: as, v :: vs, acc => by rw [zipA, zipA_eq as vs]; simp
theorem wc_pos {name qual : Str} {params : Arguments} {body : List Stmt} {scope : Scope} {dV kV doc pm cdv ct oc : Value} {an od : Option Addr} {osl : Array (Option Value)} {f : Addr} {vals : List Value} {Q : Value → Heap → Prop}
    (hG : Le G h.get?) (S : Stat K mg mb G) (hN : ∀ p ∈ N, h.get? p.1 = some p.2 ∧ G p.1 = none) (hnd : (N.map (·.1)).Nodup) (hd : A.depth < recursionLimit)
    (ho : K.lookup f = some ⟨oc, od, .func (fnOf name qual params body scope dV kV doc pm an cdv ct), osl⟩) (hcd : codeIn K cdv qual = true)
    (hbind : bindArgs (fnOf name qual params body scope dV kV doc pm an cdv ct) ⟨vals, []⟩ = pure ((params.args.map (·.arg)).zip vals)) (hloc : ∀ y ∈ (params.args.map (·.arg)).zip vals, scope.names.lookup y.1 = some .local)
    (hcell : ∀ x ∈ scope.names, x.2 ≠ .cell) (hco : scope.isCoroutine = false) (hgen : scope.isGenerator = false) (hk : scope.kind = .function)
    (k : ∀ L h₁, Le h.get? h₁.get? → let env := envOf qual scope L f cdv; let l := zipA params.args vals []; Fm G L N h₁ l → W prog w s (A.deeper env) h₁ (execs body env) (Krv Q)) :
    Wc prog w s A h (.call (.ref f) ⟨vals, []⟩) Q :=
  wc_def hG S hN hnd hd ho hcd (fun _ => BindsTo.of_eq hbind) hloc hcell hco hgen hk fun L h₁ k₁ F => k L h₁ k₁ (by rw [zipA_eq]; simpa using F)

theorem w_enterN {name qual : Str} {params : Arguments} {body : List Stmt} {scope : Scope} {dV kV doc pm cdv ct oc : Value} {an od : Option Addr} {osl : Array (Option Value)} {f : Addr} {vals : List Value} {n : Nat} {Q : Value → Heap → Prop}
    (k : ∀ L h₁, Le h.get? h₁.get? → let env := envOf qual scope L f cdv; let l := zipA params.args vals []; Fm G L N h₁ l → W prog w s (A.deeper env) h₁ (execs body env) (Krv Q))
    (hG : Le G h.get? := by walk_at "as") (S : Stat K mg mb G := by walk_at "as") (hN : ∀ p ∈ N, h.get? p.1 = some p.2 ∧ G p.1 = none := by walk_at "as") (hnd : (N.map (·.1)).Nodup := by walk_at "as") (R : Rm A n := by walk_at "as")
    (ho : K.lookup f = some ⟨oc, od, .func (fnOf name qual params body scope dV kV doc pm an cdv ct), osl⟩ := by k_is) (hcd : codeIn K cdv qual = true := by k_is)
    (hbind : bindArgs (fnOf name qual params body scope dV kV doc pm an cdv ct) ⟨vals, []⟩ = pure ((params.args.map (·.arg)).zip vals) := by exact rfl) (hloc : ∀ y ∈ (params.args.map (·.arg)).zip vals, scope.names.lookup y.1 = some .local := by exact locs rfl)
    (hcell : ∀ x ∈ scope.names, x.2 ≠ .cell := by decide) (hco : scope.isCoroutine = false := by exact rfl) (hgen : scope.isGenerator = false := by exact rfl) (hk : scope.kind = .function := by exact rfl) : W prog w s A h (call (.ref f) vals) Q :=
  wc_w (wc_pos hG S hN hnd (Rm.d R) ho hcd hbind hloc hcell hco hgen hk k)
theorem w_enter {name qual : Str} {params : Arguments} {body : List Stmt} {scope : Scope} {dV kV doc pm cdv ct oc : Value} {an od : Option Addr} {osl : Array (Option Value)} {f : Addr} {vals : List Value} {n : Nat} {Q : Value → Heap → Prop}
    (k : ∀ L h₁, Le h.get? h₁.get? → let env := envOf qual scope L f cdv; let l := zipA params.args vals []; Fm h.get? L [] h₁ l → W prog w s (A.deeper env) h₁ (execs body env) (Krv Q))
    (S : Stat K mg mb h.get? := by walk_at "as") (R : Rm A n := by walk_at "as")
    (ho : K.lookup f = some ⟨oc, od, .func (fnOf name qual params body scope dV kV doc pm an cdv ct), osl⟩ := by k_is) (hcd : codeIn K cdv qual = true := by k_is)
    (hbind : bindArgs (fnOf name qual params body scope dV kV doc pm an cdv ct) ⟨vals, []⟩ = pure ((params.args.map (·.arg)).zip vals) := by exact rfl) (hloc : ∀ y ∈ (params.args.map (·.arg)).zip vals, scope.names.lookup y.1 = some .local := by exact locs rfl)
    (hcell : ∀ x ∈ scope.names, x.2 ≠ .cell := by decide) (hco : scope.isCoroutine = false := by exact rfl) (hgen : scope.isGenerator = false := by exact rfl) (hk : scope.kind = .function := by exact rfl) : W prog w s A h (call (.ref f) vals) Q :=
  wc_w (wc_pos (N := []) (Le.refl _) S (fun _ hp => nomatch hp) List.nodup_nil (Rm.d R) ho hcd hbind hloc hcell hco hgen hk k)
theorem under_new {C : Addr} {rest : List Value} {n : Nat} (r : Rm A (n + 1)) : Rm (A.under (.builtin "type.__call__" ⟨.ref C :: rest, []⟩)) n := by
  obtain ⟨a, b, c⟩ := r
  refine ⟨a, ?_, ?_⟩
  · rw [depth_under_make]; omega
  · rw [units_under_make]; omega

theorem wc_new {C fI : Addr} {rest : List Value} {kw : List (Str × Value)} {Q : Value → Heap → Prop} (hG : Le G h.get?) (S : Stat K mg mb G) (hm : makesIn K C = true)
    (hi : findIn K (.ref C) "__init__" = some (some (.ref fI))) (hf : typeIn K (.ref fI) = some (.type "function"))
    (k : ∀ dx x h', Le h.get? h'.get? → h'.get? x = some (instObj C dx) → h'.get? dx = some (dictOf [] 0) → h.get? x = none → h.get? dx = none → x ≠ dx →
      Wc prog w s (A.under (.builtin "type.__call__" ⟨.ref C :: rest, kw⟩)) h' (.call (.ref fI) ⟨.ref x :: rest, kw⟩) (fun v h'' => v = .none ∧ Q (.ref x) h'')) :
    Wc prog w s A h (.call (.ref C) ⟨rest, kw⟩) Q := by
  refine Wc.mk fun tk => ?_
  have S0 := S.at hG
  refine make_core (makes_of S0.K hm) (looks_findIn S0.K hi) (fun self => bind_fn S0.K self hf) (.inl rfl) ?_
  have e1 : ((h.push emptyDict).push (instObj C h.objs.size)).get? (h.objs.size + 1) = some (instObj C h.objs.size) := by
    have := Heap.get?_push_size (h := h.push emptyDict) (o := instObj C h.objs.size) rfl
    rwa [Heap.size_push] at this
  have e2 : ((h.push emptyDict).push (instObj C h.objs.size)).get? h.objs.size = some (dictOf [] 0) := Heap.get?_push_of_some _ (Heap.get?_push_size _ rfl)
  have n1 : h.get? (h.objs.size + 1) = none := by
    cases q : h.get? (h.objs.size + 1) with
    | none => rfl
    | some o => exact absurd (Heap.lt_size q) (Nat.not_lt.mpr (Nat.le_succ _))
  refine codeAny_mono ((k h.objs.size (h.objs.size + 1) _ (fun b o e => Heap.get?_push_of_some _ (Heap.get?_push_of_some _ e)) e1 e2 n1 (Heap.get?_size_none h) (Nat.ne_of_gt (Nat.lt_succ_self h.objs.size))).out tk) (fun r s' q => ?_)
  cases r with
  | error e => exact q.elim
  | ok f => cases f with
    | ret v => obtain ⟨h', tk', e, rfl, q⟩ := q; exact ⟨rfl, h', tk', e, q⟩
    | _ => exact q.elim

/-- the fields of an instance's dict -/
inductive FieldsAre : List DictEntry → List (Str × Value) → Prop
  | nil : FieldsAre [] []
  | cons {hs : Int} {n : Str} {t : Tok} {v : Value} {es : List DictEntry} {fs : List (Str × Value)} : FieldsAre es fs → FieldsAre (⟨hs, .str n t, v⟩ :: es) ((n, v) :: fs)
theorem FieldsAre.get {es : List DictEntry} {fs : List (Str × Value)} (x : FieldsAre es fs) (name : Str) : getL name es = some (fs.lookup name) := by
  unfold getL
  have nr : es.any (·.refKey) = false := by
    induction x with
    | nil => rfl
    | cons _ ih => rw [List.any_cons, ih]; rfl
  rw [nr]
  induction x with
  | nil => rfl
  | @cons hs n t v es fs r ih =>
    have ih := ih (by rw [List.any_cons] at nr; simpa using (Bool.or_eq_false_iff.mp nr).2)
    rw [List.lookup_cons, List.find?_cons]
    show (match (match n == name with | true => some (⟨hs, .str n t, v⟩ : DictEntry) | false => es.find? (·.key.isStr name)) with | some e => some (some e.val) | none => if false = true then none else some none) = _
    by_cases q : n = name
    · subst q; simp
    · have q1 : (n == name) = false := beq_eq_false_iff_ne.mpr q
      have q2 : (name == n) = false := beq_eq_false_iff_ne.mpr (Ne.symm q)
      rw [q1, q2]; exact ih
noncomputable def putF (name : Str) (v : Value) : List (Str × Value) → List (Str × Value)
  | [] => [(name, v)]
  | (n, u) :: r => if n == name then (n, v) :: r else (n, u) :: putF name v r
theorem FieldsAre.put {es : List DictEntry} {fs : List (Str × Value)} (x : FieldsAre es fs) (name : Str) (hs : Int) (t : Tok) (v : Value) : FieldsAre (putL name hs (.str name t) v es) (putF name v fs) := by
  induction x with
  | nil => exact .cons .nil
  | @cons hs' n t' u es fs r ih =>
    show FieldsAre (if (n == name) = true then _ else _) (if (n == name) = true then _ else _)
    by_cases q : (n == name) = true
    · rw [if_pos q, if_pos q]; exact .cons r
    · rw [if_neg q, if_neg q]; exact .cons ih
theorem FieldsAre.length {es : List DictEntry} {fs : List (Str × Value)} (x : FieldsAre es fs) : es.length = fs.length := by
  induction x with
  | nil => rfl
  | cons _ ih => simp [ih]

noncomputable def InstG (G : PH) (x C : Addr) (fs : List (Str × Value)) : Prop := ∃ dx es n, G x = some (instObj C dx) ∧ G dx = some (dictOf es n) ∧ FieldsAre es fs
theorem InstG.mono {G G' : PH} {x C : Addr} {fs : List (Str × Value)} (I : InstG G x C fs) (k : Le G G') : InstG G' x C fs := let ⟨dx, es, n, a, b, c⟩ := I; ⟨dx, es, n, k _ _ a, k _ _ b, c⟩
noncomputable def TupG (G : PH) (a : Addr) (vs : List Value) : Prop := ∃ o, G a = some o ∧ o.cls = .type "tuple" ∧ ∃ n, o.data = .seq vs.toArray n
noncomputable def LstG (G : PH) (a : Addr) (vs : List Value) : Prop := ∃ o, G a = some o ∧ o.cls = .type "list" ∧ ∃ n, o.data = .seq vs.toArray n
theorem TupG.mono {G G' : PH} {a : Addr} {vs : List Value} (I : TupG G a vs) (k : Le G G') : TupG G' a vs := let ⟨o, e, r⟩ := I; ⟨o, k _ _ e, r⟩
theorem LstG.mono {G G' : PH} {a : Addr} {vs : List Value} (I : LstG G a vs) (k : Le G G') : LstG G' a vs := let ⟨o, e, r⟩ := I; ⟨o, k _ _ e, r⟩
theorem TupG.is {a : Addr} {vs : List Value} (I : TupG h.get? a vs) : IsTup h a vs.toArray := I
theorem LstG.is {a : Addr} {vs : List Value} (I : LstG h.get? a vs) : h.IsList a vs.toArray := I
theorem TupG.of {a : Addr} {vs : List Value} {n : Nat} (e : G a = some { cls := .type "tuple", data := .seq vs.toArray n }) : TupG G a vs := ⟨_, e, rfl, n, rfl⟩
theorem LstG.of {a : Addr} {vs : List Value} {n : Nat} (e : G a = some { cls := .type "list", data := .seq vs.toArray n }) : LstG G a vs := ⟨_, e, rfl, n, rfl⟩
noncomputable def DctG (prog : Program) (w : World) (G : PH) (d : Addr) (kvs : List (Int × Value)) : Prop := ∃ o, G d = some o ∧ o.IsDictOf (intKind prog w) kvs
theorem DctG.mono {G G' : PH} {d : Addr} {kvs : List (Int × Value)} (I : DctG prog w G d kvs) (k : Le G G') : DctG prog w G' d kvs := let ⟨o, a, b⟩ := I; ⟨o, k _ _ a, b⟩
theorem DctG.is {d : Addr} {kvs : List (Int × Value)} (I : DctG prog w h.get? d kvs) : h.DictOf (intKind prog w) d kvs := let ⟨o, a, b⟩ := I; Heap.dictOf_iff.mpr ⟨o, a, b⟩

/-- attributes -/
theorem w_attr {e : Expr} {attr : Str} {pos : Pos} {Q : Value → Heap → Prop} (k : W prog w s A h (eval e env) (Kga prog w s A attr Q))
    (he : eval (.Attribute e attr pos) env = (do
      let o ← eval e env
      standAt pos.atName
      let r ← holding [o] (getAttr o attr true)
      letTemporaryGo e o r
      pure r) := by with_unfolding_all rfl) :
    W prog w s A h (eval (.Attribute e attr pos) env) Q := W.mk fun tk => Attribute_any_ (k.nest tk) he
theorem w_get {G' : PH} {x C : Addr} {name : Str} {fs : List (Str × Value)} {attr : Option Value} {v : Value} {expr : Bool} {Q : Value → Heap → Prop} (k : Q v h) (F : Fm G L N h l := by walk_at "as") (S : Stat K mg mb G := by walk_at "as") (I : InstG G' x C fs := by walk_at "as") (kG : Le G' h.get? := by walk_at "le")
    (hg : plainGet K C name = true := by k_is) (hh : hasDictIn K C = true := by k_is) (ha : findIn K (.ref C) name = some attr := by k_is) (hn : noGet K attr = true := by k_is) (hl : fs.lookup name = some v := by exact rfl) (hv : handedIn v = true := by exact rfl) :
    W prog w s A h (getAttr (.ref x) name expr) Q := W.mk fun tk => by
  obtain ⟨dx, es, n, a, b, c⟩ := I
  have I' : InstAt h x (instObj C dx) C (some (dictOf es n)) := ⟨kG _ _ a, rfl, rfl, kG _ _ b⟩
  exact get_value (S.at F.keep).K I' (plainGet_of hg).1 (findObj_own hh ha hn (by rw [lookIn_dict, c.get, hl])) hv ⟨_, _, rfl, k⟩
/-- methods -/
theorem w_mcall {o : Expr} {name : Str} {apos pos : Pos} {args : List Expr} {pl : Sem Bool} {Q : Value → Heap → Prop}
    (k : W prog w s A h (eval o env) (Kgm prog w s A name pl (Kcw prog w s A pos (backTo pos (starEach args env)) Q)))
    (he : eval (.Call (.Attribute o name apos) args [] pos) env = (do
      let ov ← eval o env
      standAt apos.atName
      let (f, first) ← holding [ov] (getMethod ov name pl)
      callWith pos f first (backTo pos (starEach args env)) (backToKw pos (keywordEach [] env))) := by with_unfolding_all rfl) :
    W prog w s A h (eval (.Call (.Attribute o name apos) args [] pos) env) Q := W.mk fun tk => methodCall_KW (k.via tk fun _ _ tk' q => q.nest tk') he
theorem w_meth {G' : PH} {x C f : Addr} {name : Str} {fs : List (Str × Value)} {pl : Sem Bool} {Q : Value × List Value → Heap → Prop} (k : Q (.ref f, [.ref x]) h) (F : Fm G L N h l := by walk_at "as") (S : Stat K mg mb G := by walk_at "as") (I : InstG G' x C fs := by walk_at "as") (kG : Le G' h.get? := by walk_at "le")
    (hg : plainGet K C name = true := by k_is) (hf : findIn K (.ref C) name = some (some (.ref f)) := by k_is) (ht : isFn K (.ref f) = true := by k_is) (hl : fs.lookup name = none := by exact rfl) :
    W prog w s A h (getMethod (.ref x) name pl) Q := W.mk fun tk => by
  obtain ⟨dx, es, n, a, b, c⟩ := I
  have I' : InstAt h x (instObj C dx) C (some (dictOf es n)) := ⟨kG _ _ a, rfl, rfl, kG _ _ b⟩
  exact method_fn (S.at F.keep).K I' (plainGet_of hg).1 (plainGet_of hg).2 hf (beq_iff_eq.mp ht) (by show (lookIn name (dictOf es n)).map _ = _; rw [lookIn_dict, c.get, hl]; rfl) ⟨_, _, rfl, k⟩
/-- calls by a name -/
theorem w_call {id : Str} {p pos : Pos} {args : List Expr} {Q : Value → Heap → Prop} (k : W prog w s A h (eval (.Name id p) env) (Kc1 prog w s A pos (backTo pos (starEach args env)) Q)) :
    W prog w s A h (eval (.Call (.Name id p) args [] pos) env) Q := W.mk fun tk => by
  rw [arm_eval_Call_Name']
  exact wpAny_bind (k.nest tk)
theorem w_with {f : Value} {first : List Value} {pos : Pos} {e : Expr} {rest : List Expr} {Q : Value → Heap → Prop} (k : W prog w s A h (spliced (backTo pos (starEach (e :: rest) env))) (Kin prog w s A K f first Q))
    (S : Stat K mg mb G := by walk_at "as") (hk : keepIn K f = true := by k_is)
    (he : starEach (e :: rest) env = (false, eval e env) :: starEach rest env := by with_unfolding_all rfl) (hplain : (backTo pos (starEach rest env)).any (·.1) = false := by with_unfolding_all rfl) :
    W prog w s A h (callWith pos f first (backTo pos (starEach (e :: rest) env)) []) Q := W.mk fun tk => by
  rw [he] at k ⊢
  exact callWith_of (by show ((false || (backTo pos (starEach rest env)).any (·.1)) || false) = false; rw [hplain]; rfl) (keeps_K hk) (evalArgs_plain (k.via tk fun _ _ tk' q => ⟨q.1, q.2.out tk'⟩))
theorem w_with0 {f : Value} {first : List Value} {pos : Pos} {Q : Value → Heap → Prop} (k : W prog w s A h (call f first) Q) (S : Stat K mg mb G := by walk_at "as") (F : Fm G L N h l := by walk_at "as") (hk : keepIn K f = true := by k_is) :
    W prog w s A h (callWith pos f first (backTo pos (starEach [] env)) []) Q := W.mk fun tk => callWith_of rfl (keeps_K hk) (evalArgs_nil3 ⟨(S.at F.keep).K, by rw [List.append_nil]; exact k.out tk⟩)
theorem w_items0 {pos : Pos} {Q : List Value → Heap → Prop} (k : Q [] h) : W prog w s A h (spliced (backTo pos (starEach [] env))) Q := W.mk fun tk => wpAny_items_nil ⟨_, _, rfl, k⟩
theorem w_items {pos : Pos} {e : Expr} {rest : List Expr} {Q : List Value → Heap → Prop} (k : W prog w s A h (eval e env) (Kit prog w s A (spliced (backTo pos (starEach rest env))) Q))
    (he : starEach (e :: rest) env = (false, eval e env) :: starEach rest env := by with_unfolding_all rfl) : W prog w s A h (spliced (backTo pos (starEach (e :: rest) env))) Q :=
  W.mk fun tk => wpAny_items_cons (k.via tk fun _ _ tk' q => q.via tk' fun _ _ _ q => ⟨_, _, rfl, q⟩) he
/-- displays -/
theorem w_list {elts : List Expr} {pos : Pos} {Q : Value → Heap → Prop} (k : W prog w s A h (spliced (backTo pos (starEach elts env))) (Kt prog w s A newList Q)) :
    W prog w s A h (eval (.List elts pos) env) Q := W.mk fun tk => List_ (k.nest tk)
theorem w_tuple {elts : List Expr} {kd : Nat} {pos : Pos} {Q : Value → Heap → Prop} (k : W prog w s A h (spliced (backTo pos (starEach elts env))) (Kt prog w s A newTuple Q)) :
    W prog w s A h (eval (.Tuple elts kd pos) env) Q := W.mk fun tk => Tuple_ (k.nest tk)
theorem w_newList {vs : List Value} {Q : Value → Heap → Prop} (F : Fm G L N h l) (k : ∀ a h', Fm G L ((a, { cls := .type "list", data := .seq vs.toArray }) :: N) h' l → Le h.get? h'.get? → h.get? a = none → Q (.ref a) h') (hsz : vs.length ≤ sizeLine := by walk_at "sz") :
    W prog w s A h (newList vs) Q := W.mk fun tk => wpAny_newObj_type ⟨_, _, rfl, k _ _ (F.alloc _) (fun _ _ e => Heap.get?_push_of_some _ e) (Heap.get?_size_none h)⟩ (by show vs.toArray.size ≤ sizeLine; rw [List.size_toArray]; exact hsz)
theorem w_newTuple {vs : List Value} {Q : Value → Heap → Prop} (F : Fm G L N h l) (k : ∀ a h', Fm G L ((a, { cls := .type "tuple", data := .seq vs.toArray }) :: N) h' l → Le h.get? h'.get? → h.get? a = none → Q (.ref a) h') (hsz : vs.length ≤ sizeLine := by walk_at "sz") :
    W prog w s A h (newTuple vs) Q := W.mk fun tk => wpAny_newObj_type ⟨_, _, rfl, k _ _ (F.alloc _) (fun _ _ e => Heap.get?_push_of_some _ e) (Heap.get?_size_none h)⟩ (by show vs.toArray.size ≤ sizeLine; rw [List.size_toArray]; exact hsz)
/-- subscripts -/
theorem w_sub {e i : Expr} {pos : Pos} {Q : Value → Heap → Prop} (k : W prog w s A h (eval e env) (K2 prog w s A (eval i env) (subscriptTail e i) Q)) :
    W prog w s A h (eval (.Subscript e i pos) env) Q := W.mk fun tk => Subscript_ (k.via tk fun _ _ tk' q => q.nest tk')
theorem w_subList {G' : PH} {e i : Expr} {a : Addr} {vs : List Value} {j : Int} {t : Tok} {x : Value} {Q : Value → Heap → Prop} (I : LstG G' a vs) (kG : Le G' h.get?) (h0 : 0 ≤ j) (hhi : j < 2 ^ 63) (hx : vs[j.toNat]? = some x) (k : Q x h)
    (hs : subscripted i false (.ref a) (.int j t) = operate [.ref a, .int j t] (getItem (.ref a) (.int j t)) := by with_unfolding_all rfl) : W prog w s A h (subscriptTail e i (.ref a) (.int j t)) Q :=
  W.mk fun tk => tail_any (I.mono kG).is.typeIs slot_list_getitem.lookup (wpAny_getItem_list (I.mono kG).is h0 hhi (by simpa using hx) ⟨_, _, rfl, k⟩) hs
theorem w_subTup {G' : PH} {e i : Expr} {a : Addr} {vs : List Value} {j : Int} {t : Tok} {x : Value} {Q : Value → Heap → Prop} (I : TupG G' a vs) (kG : Le G' h.get?) (h0 : 0 ≤ j) (hhi : j < 2 ^ 63) (hx : vs[j.toNat]? = some x) (k : Q x h)
    (hs : subscripted i false (.ref a) (.int j t) = operate [.ref a, .int j t] (getItem (.ref a) (.int j t)) := by with_unfolding_all rfl) : W prog w s A h (subscriptTail e i (.ref a) (.int j t)) Q :=
  W.mk fun tk => by
    have hj : j.toNat < vs.length := by
      rcases Nat.lt_or_ge j.toNat vs.length with q | q
      · exact q
      · rw [List.getElem?_eq_none q] at hx; cases hx
    exact item_tupleT (j := j.toNat) (I.mono kG).is (by omega) hhi (seqIx h0 (by omega)) (by simpa using hx) ⟨_, _, rfl, k⟩ hs
theorem w_subTupC {G' : PH} {e i : Expr} {a : Addr} {vs : List Value} {j : Int} {t : Tok} {x : Value} {Q : Value → Heap → Prop} (k : Q x h) (I : TupG G' a vs := by walk_at "as") (kG : Le G' h.get? := by walk_at "le") (h0 : 0 ≤ j := by decide) (hhi : j < 2 ^ 63 := by decide) (hx : vs[j.toNat]? = some x := by exact rfl)
    (hs : subscripted i false (.ref a) (.int j t) = operate [.ref a, .int j t] (getItem (.ref a) (.int j t)) := by with_unfolding_all rfl) : W prog w s A h (subscriptTail e i (.ref a) (.int j t)) Q := w_subTup I kG h0 hhi hx k hs
/-- the named continuations met -/
theorem w_kcw {f : Value} {first : List Value} {pos : Pos} {T : List (Bool × Sem Value)} {Q : Value → Heap → Prop} (k : W prog w s A h (callWith pos f first T []) Q) : Kcw prog w s A pos T Q (f, first) h := k
theorem w_kcl0 {f : Value} {vs : List Value} {Q : Value → Heap → Prop} (k : W prog w s A h (call f vs) Q) : Kcl prog w s A f [] Q vs h := k
theorem w_kcl1 {f x : Value} {vs : List Value} {Q : Value → Heap → Prop} (k : W prog w s A h (call f (x :: vs)) Q) : Kcl prog w s A f [x] Q vs h := k
theorem w_kin0 {f : Value} {vs : List Value} {Q : Value → Heap → Prop} (k : W prog w s A h (call f vs) Q) (F : Fm G L N h l := by walk_at "as") (S : Stat K mg mb G := by walk_at "as") : Kin prog w s A K f [] Q vs h := ⟨(S.at F.keep).K, k⟩
theorem w_kin1 {f x : Value} {vs : List Value} {Q : Value → Heap → Prop} (k : W prog w s A h (call f (x :: vs)) Q) (F : Fm G L N h l := by walk_at "as") (S : Stat K mg mb G := by walk_at "as") : Kin prog w s A K f [x] Q vs h := ⟨(S.at F.keep).K, k⟩
theorem w_kao2 {t u : Value → Sem Unit} {a b : Value} {Q : Unit → Heap → Prop} (k : W prog w s A h (assignInOrder [t, u] [b, a]) Q) : Kao prog w s A [t, u] Q [a, b] h := k
theorem w_kao3 {t u v : Value → Sem Unit} {a b c : Value} {Q : Unit → Heap → Prop} (k : W prog w s A h (assignInOrder [t, u, v] [c, b, a]) Q) : Kao prog w s A [t, u, v] Q [a, b, c] h := k
end
section
variable {prog : Program} {w : World} {s : Shared} {A : Around} {h : Heap} {env : Env}
variable {G : PH} {L : Addr} {N : List (Addr × Obj)} {l : List (Str × Value)}
variable {K : Frag} {mg mb : Str → Option Value}

theorem w_fdiv {a b : Int} {t u : Tok} {Q : Value → Heap → Prop} (k : ∀ t, Q (.int (a / b) t) h) (hb : 0 < b := by walk_at "om") (hs : b.natAbs < 1073741824 := by walk_at "om") : W prog w s A h (binaryOp .FloorDiv (.int a t) (.int b u)) Q :=
  W.mk fun _ => floordiv_int (Int.ne_of_gt hb) ⟨_, _, rfl, by rw [Int.fdiv_eq_ediv_of_nonneg _ (Int.le_of_lt hb)]; exact k _⟩ (Or.inl (PyProof.noPylong_small hs))
theorem w_band {a b : Int} {t u : Tok} {Q : Value → Heap → Prop} (k : ∀ t, Q (.int (Builtin.bitAnd a b) t) h) : W prog w s A h (binaryOp .BitAnd (.int a t) (.int b u)) Q := W.mk fun _ => and_int ⟨_, _, rfl, k _⟩
theorem w_bor {a b : Int} {t u : Tok} {Q : Value → Heap → Prop} (k : ∀ t, Q (.int (Builtin.bitOr a b) t) h) : W prog w s A h (binaryOp .BitOr (.int a t) (.int b u)) Q := W.mk fun _ => or_int ⟨_, _, rfl, k _⟩
theorem w_inv {a : Int} {t : Tok} {Q : Value → Heap → Prop} (k : ∀ t, Q (.int (Builtin.bitNot a) t) h) : W prog w s A h (unaryOp .Invert (.int a t)) Q := W.mk fun _ => invert_int ⟨_, _, rfl, k _⟩
theorem w_neg {a : Int} {t : Tok} {Q : Value → Heap → Prop} (k : ∀ t, Q (.int (-a) t) h) : W prog w s A h (unaryOp .USub (.int a t)) Q := W.mk fun _ => neg_int ⟨_, _, rfl, k _⟩
theorem w_mul {a b : Int} {t u : Tok} {Q : Value → Heap → Prop} (hm : IntMulOk a b) (k : ∀ t, Q (.int (a * b) t) h) : W prog w s A h (binaryOp .Mult (.int a t) (.int b u)) Q := W.mk fun _ => PyProof.Rows.mul_int ⟨_, _, rfl, k _⟩ hm
theorem w_pow {a n : Int} {t u : Tok} {Q : Value → Heap → Prop} (hn : 0 ≤ n) (hn2 : n ≤ 1000000) (ha : a.natAbs < 2 ^ 64) (k : ∀ t, Q (.int (a ^ n.toNat) t) h) : W prog w s A h (binaryOp .Pow (.int a t) (.int n u)) Q := W.mk fun _ => pow_int_small hn hn2 ha ⟨_, _, rfl, k _⟩
theorem w_le {a b : Int} {t u : Tok} {Q : Value → Heap → Prop} (k : Q (.bool (decide (a ≤ b))) h) : W prog w s A h (compareOp .LtE (.int a t) (.int b u)) Q := W.mk fun _ => PyProof.Rows.le_int ⟨_, _, rfl, k⟩
theorem w_ge {a b : Int} {t u : Tok} {Q : Value → Heap → Prop} (k : Q (.bool (decide (b ≤ a))) h) : W prog w s A h (compareOp .GtE (.int a t) (.int b u)) Q := W.mk fun _ => PyProof.Rows.ge_int ⟨_, _, rfl, k⟩
theorem w_tint {a : Int} {t : Tok} {Q : Bool → Heap → Prop} (k : Q (decide (a ≠ 0)) h) : W prog w s A h (truthy (.int a t)) Q := W.mk fun _ => PyProof.Rows.truthy_int ⟨_, _, rfl, by
  have e : (a != 0) = decide (a ≠ 0) := by by_cases q : a = 0 <;> simp [q]
  rw [e]; exact k⟩
theorem w_eqstr {x y : Str} {t u : Tok} {Q : Value → Heap → Prop} (k : Q (.bool (decide (x = y))) h) : W prog w s A h (compareOp .Eq (.str x t) (.str y u)) Q := W.mk fun _ => eq_str ⟨_, _, rfl, by
  have e : (x == y) = decide (x = y) := by by_cases q : x = y <;> simp [q]
  rw [e]; exact k⟩
theorem w_isNone {v : Value} {Q : Value → Heap → Prop} (k : Q (.bool (decide (v = .none))) h) : W prog w s A h (compareOp .Is v .none) Q := W.mk fun _ => is_none ⟨_, _, rfl, by
  have e : (v == .none) = decide (v = .none) := by by_cases q : v = .none <;> simp [q]
  rw [e]; exact k⟩
theorem w_isNotNone {v : Value} {Q : Value → Heap → Prop} (k : Q (.bool (decide (v ≠ .none))) h) (hp : plainIs v .none = true := by with_unfolding_all rfl) : W prog w s A h (compareOp .IsNot v .none) Q := W.mk fun _ => wpAny_isNot_plain hp ⟨_, _, rfl, by
  have e : (!(v == .none)) = decide (v ≠ .none) := by by_cases q : v = .none <;> simp [q]
  rw [e]; exact k⟩
/-- chains -/
theorem w_tchain {a : Expr} {o1 o2 : CmpOp} {ops : List CmpOp} {r1 r2 : Expr} {rs : List Expr} {pos : Pos} {wh : Sem Value} {Q : Bool → Heap → Prop}
    (k : W prog w s A h (eval a env) (Ktc prog w s A pos (o1 :: o2 :: ops) (eval r1 env :: eval r2 env :: evalEach rs env) Q))
    (hm : lastMarks (o1 :: o2 :: ops) (r1 :: r2 :: rs) = false := by with_unfolding_all rfl) : W prog w s A h (isTrue (.Compare a (o1 :: o2 :: ops) (r1 :: r2 :: rs) pos) env wh) Q := W.mk fun tk => isTrue_chain (k.nest tk) hm
theorem w_tlink {pos : Pos} {a : Value} {op op' : CmpOp} {ops : List CmpOp} {r r' : Sem Value} {rs : List (Sem Value)} {Q : Bool → Heap → Prop}
    (k : W prog w s A h r (Ktl prog w s A pos op a (op' :: ops) (r' :: rs) Q)) :
    W prog w s A h (testChain pos a (op :: op' :: ops) (r :: r' :: rs)) Q := W.mk fun tk => test_link (k.via tk fun _ _ tk' q => q.via tk' fun _ _ tk'' q => q.via tk'' fun t _ tk3 q => by
      cases t
      · exact ⟨_, _, rfl, q.2 rfl⟩
      · exact (q.1 rfl).out tk3)
theorem w_tlast {pos : Pos} {a : Value} {op : CmpOp} {r : Sem Value} {Q : Bool → Heap → Prop}
    (k : W prog w s A h r (Kt prog w s A (compareOp op a) (Kt prog w s A truthy Q))) : W prog w s A h (testChain pos a [op] [r]) Q :=
  W.mk fun tk => test_last (k.via tk fun _ _ tk' q => q.via tk' fun _ _ tk'' q => q.out tk'')
/-- boolean operators for a value -/
theorem w_bop1 {op : BoolOp} {e : Expr} {pos : Pos} {Q : Value → Heap → Prop} (k : W prog w s A h (eval e env) Q) : W prog w s A h (eval (.BoolOp op [e] pos) env) Q := W.mk fun tk => BoolOp_one (k.out tk)
theorem w_and {e₁ e₂ : Expr} {rest : List Expr} {pos : Pos} {Q : Value → Heap → Prop}
    (k : W prog w s A h (eval e₁ env) (Kand prog w s A (eval (.BoolOp .And (e₂ :: rest) pos) env) Q)) : W prog w s A h (eval (.BoolOp .And (e₁ :: e₂ :: rest) pos) env) Q :=
  W.mk fun tk => BoolOp_and (k.via tk fun v _ tk' q => q.via tk' fun c _ tk'' q => by
    cases c
    · exact ⟨_, _, rfl, q.2 rfl⟩
    · exact (q.1 rfl).out tk'')
theorem w_or {e₁ e₂ : Expr} {rest : List Expr} {pos : Pos} {Q : Value → Heap → Prop}
    (k : W prog w s A h (eval e₁ env) (Kor prog w s A (eval (.BoolOp .Or (e₂ :: rest) pos) env) Q)) : W prog w s A h (eval (.BoolOp .Or (e₁ :: e₂ :: rest) pos) env) Q :=
  W.mk fun tk => BoolOp_or (k.via tk fun v _ tk' q => q.via tk' fun c _ tk'' q => by
    cases c
    · exact (q.2 rfl).out tk''
    · exact ⟨_, _, rfl, q.1 rfl⟩)
theorem w_not {v : Value} {Q : Value → Heap → Prop} (k : W prog w s A h (truthy v) (Knb Q)) : W prog w s A h (unaryOp .Not v) Q := W.mk fun tk => not_of (k.via tk fun _ _ _ q => ⟨_, _, rfl, q⟩)
/-- dicts by int keys -/
theorem w_dget {G' : PH} {d : Addr} {kvs : List (Int × Value)} {pl : Sem Bool} {Q : Value × List Value → Heap → Prop} (k : Q (.builtin "dict.get", [.ref d]) h) (I : DctG prog w G' d kvs := by walk_at "as") (kG : Le G' h.get? := by walk_at "le") : W prog w s A h (getMethod (.ref d) "get" pl) Q := W.mk fun tk =>
  have hD := (I.mono kG).is
  getMethod_builtin hD.typeIs PySem.F.plainAttrs_dict PySem.F.slot_dict_get PySem.F.type_dict_get hD.mapOf.noDict ⟨_, _, rfl, k⟩
theorem w_dget2 {G' : PH} {d : Addr} {kvs : List (Int × Value)} {i : Int} {t : Tok} {dflt : Value} {Q : Value → Heap → Prop} (k : Q ((valueAt kvs i).getD dflt) h) (I : DctG prog w G' d kvs := by walk_at "as") (kG : Le G' h.get? := by walk_at "le") (lo : (d == sysModules) = false := by first | assumption | exact rfl) :
    W prog w s A h (call (.builtin "dict.get") [.ref d, .int i t, dflt]) Q := W.mk fun tk =>
  have hD := (I.mono kG).is
  call_meetsIn PySem.F.slot_dict_get hD.typeIs PySem.F.entry_dict_get (PySem.F.args_dict_get_3 _ _ _) (meets_dict_get_default (intKind prog w) d (intKind_is _ _ i t) lo dflt) ⟨_, hD.mapOf, ⟨_, _, rfl, k⟩⟩
theorem w_din {G' : PH} {d : Addr} {kvs : List (Int × Value)} {i : Int} {t : Tok} {Q : Value → Heap → Prop} (k : Q (.bool (valueAt kvs i).isSome) h) (I : DctG prog w G' d kvs := by walk_at "as") (kG : Le G' h.get? := by walk_at "le") (lo : (d == sysModules) = false := by first | assumption | exact rfl) :
    W prog w s A h (compareOp .In (.int i t) (.ref d)) Q := W.mk fun tk => wpAny_in_of (intKind_is _ _ i t) lo (I.mono kG).is.mapOf ⟨_, _, rfl, k⟩
theorem w_dnotin {G' : PH} {d : Addr} {kvs : List (Int × Value)} {i : Int} {t : Tok} {Q : Value → Heap → Prop} (k : Q (.bool (!(valueAt kvs i).isSome)) h) (I : DctG prog w G' d kvs := by walk_at "as") (kG : Le G' h.get? := by walk_at "le") (lo : (d == sysModules) = false := by first | assumption | exact rfl) :
    W prog w s A h (compareOp .NotIn (.int i t) (.ref d)) Q := W.mk fun tk => wpAny_notIn_of (intKind_is _ _ i t) lo (I.mono kG).is.mapOf ⟨_, _, rfl, k⟩
theorem w_subDict {G' : PH} {e i : Expr} {d : Addr} {kvs : List (Int × Value)} {j : Int} {t : Tok} {x : Value} {Q : Value → Heap → Prop} (I : DctG prog w G' d kvs) (kG : Le G' h.get?) (hx : valueAt kvs j = some x) (k : Q x h)
    (hs : subscripted i false (.ref d) (.int j t) = operate [.ref d, .int j t] (getItem (.ref d) (.int j t)) := by with_unfolding_all rfl) : W prog w s A h (subscriptTail e i (.ref d) (.int j t)) Q := W.mk fun tk =>
  tail_any (I.mono kG).is.typeIs slot_dict_getitem.lookup (wpAny_getItem_of (intKind_is _ _ j t) (I.mono kG).is.mapOf hx ⟨_, _, rfl, k⟩) hs
/-- len -/
theorem w_len {G' : PH} {a : Addr} {vs : List Value} {Q : Value → Heap → Prop} (k : ∀ t, Q (.int vs.length t) h) (I : LstG G' a vs := by walk_at "as") (kG : Le G' h.get? := by walk_at "le") (hfit : (vs.length : Int) < 2 ^ 63 := by ((try simp only [List.length_cons, List.length_nil]); walk_at "om")) : W prog w s A h (call (.builtin "len") [.ref a]) Q :=
  W.mk fun tk => Calls.call_len_list (I.mono kG).is (by simpa using hfit) ⟨_, _, rfl, by simpa using k _⟩
theorem w_lenT {G' : PH} {a : Addr} {vs : List Value} {Q : Value → Heap → Prop} (k : ∀ t, Q (.int vs.length t) h) (I : TupG G' a vs := by walk_at "as") (kG : Le G' h.get? := by walk_at "le") (hfit : (vs.length : Int) < 2 ^ 63 := by ((try simp only [List.length_cons, List.length_nil]); walk_at "om")) : W prog w s A h (call (.builtin "len") [.ref a]) Q :=
  W.mk fun tk => len_tuple (I.mono kG).is (by simpa using hfit) ⟨_, _, rfl, by simpa using k _⟩
/-- a ledger's entry is changed -/
inductive At (d : Addr) (o o' : Obj) : List (Addr × Obj) → List (Addr × Obj) → Prop
  | head {r : List (Addr × Obj)} : At d o o' ((d, o) :: r) ((d, o') :: r)
  | tail {p : Addr × Obj} {r r' : List (Addr × Obj)} : At d o o' r r' → At d o o' (p :: r) (p :: r')
theorem At.mem {d : Addr} {o o' : Obj} {N N' : List (Addr × Obj)} (a : At d o o' N N') : (d, o) ∈ N := by
  induction a with
  | head => exact .head _
  | tail _ ih => exact .tail _ ih
theorem At.mem' {d : Addr} {o o' : Obj} {N N' : List (Addr × Obj)} (a : At d o o' N N') : (d, o') ∈ N' := by
  induction a with
  | head => exact .head _
  | tail _ ih => exact .tail _ ih
theorem At.adr {d : Addr} {o o' : Obj} {N N' : List (Addr × Obj)} (a : At d o o' N N') : N'.map (·.1) = N.map (·.1) := by
  induction a with
  | head => rfl
  | tail _ ih => simp [ih]
theorem At.cases {d : Addr} {o o' : Obj} {N N' : List (Addr × Obj)} (a : At d o o' N N') : ∀ p ∈ N', p = (d, o') ∨ p ∈ N := by
  induction a with
  | head => intro p hp; rcases List.mem_cons.mp hp with q | q; exact .inl q; exact .inr (.tail _ q)
  | tail _ ih =>
    intro p hp
    rcases List.mem_cons.mp hp with q | q
    · exact .inr (q ▸ .head _)
    · exact (ih p q).imp id (.tail _)
theorem nodup_val {N : List (Addr × Obj)} (hn : (N.map (·.1)).Nodup) {a : Addr} {o o' : Obj} (h1 : (a, o) ∈ N) (h2 : (a, o') ∈ N) : o = o' := by
  induction N with
  | nil => cases h1
  | cons p r ih =>
    rw [List.map_cons, List.nodup_cons] at hn
    rcases List.mem_cons.mp h1 with e1 | h1 <;> rcases List.mem_cons.mp h2 with e2 | h2
    · rw [← e1] at e2; exact (Prod.mk.inj e2).2.symm
    · exact absurd (List.mem_map.mpr ⟨_, h2, rfl⟩) (by rw [← e1] at hn; exact hn.1)
    · exact absurd (List.mem_map.mpr ⟨_, h1, rfl⟩) (by rw [← e2] at hn; exact hn.1)
    · exact ih hn.2 h1 h2
/-- after a change of one entry's object alone -/
theorem Fm.set {N' : List (Addr × Obj)} {h' : Heap} {d : Addr} {o o' : Obj} (F : Fm G L N h l) (a : At d o o' N N') (k : ∀ b x, b ≠ d → h.get? b = some x → h'.get? b = some x) (e : h'.get? d = some o') : Fm G L N' h' l := by
  have D := F.nw _ a.mem
  refine ⟨F.ns.at' fun x q => k _ _ (Ne.symm D.2.2) q, fun b x q => k b x (fun z => ?_) (F.keep b x q), F.off, fun p hp => ?_, a.adr ▸ F.nd⟩
  · have := D.2.1; rw [← z, q] at this; cases this
  · by_cases q : p.1 = d
    · have hd : (d, o') ∈ N' := a.mem'
      have he : p.2 = o' := nodup_val (a.adr ▸ F.nd) (a := d) (by rw [← q]; exact hp) hd
      rw [q, he]; exact ⟨e, D.2.1, D.2.2⟩
    · rcases a.cases p hp with r | r
      · rw [r] at q; exact absurd rfl q
      · have P := F.nw p r
        exact ⟨k _ _ q P.1, P.2⟩
theorem empty_get (b : Addr) : (({} : Heap).get? b) = none := rfl
theorem Fm.fr (F : Fm G L N h l) : ∃ m, Fr {} L h m := by
  obtain ⟨m, a, _⟩ := F.ns
  refine ⟨m, a, fun b o e => ?_, Nat.zero_le _⟩
  rw [empty_get] at e; cases e
theorem notModules (S : Stat K mg mb G) (F : Fm G L N h l) {d : Addr} (hd : h.objs.size ≤ d) : (d == sysModules) = false := by
  obtain ⟨mc, hn, _⟩ := (S.at F.keep).nolimit
  have h1 : (2 : Nat) < h.objs.size := hn.lt
  refine beq_eq_false_iff_ne.mpr fun q => ?_
  have h2 : d = (1 : Nat) := q
  rw [h2] at hd
  exact absurd (Nat.lt_of_lt_of_le h1 hd) (by decide)
theorem SameBut.ext {d : Addr} {h h' : Heap} (x : Heap.SameBut d h h') : ∀ b o, b ≠ d → h.get? b = some o → h'.get? b = some o := fun b _ n e => (x.2 b n).trans e
/-- a dict display with ints for keys -/
theorem w_dict {keys : List (Option Expr)} {values : List Expr} {pos : Pos} {Q : Value → Heap → Prop}
    (k : ∀ d h₁, Fm G L ((d, { cls := .type "dict", data := .dict #[] }) :: N) h₁ l → Le h.get? h₁.get? → h.get? d = none → (d == sysModules) = false →
      W prog w s A h₁ (evalPairs (pairTrees keys values env pos)) (fun vs h₂ => ∃ G₂ L₂ N₂ l₂, Fm G₂ L₂ ((d, { cls := .type "dict", data := .dict #[] }) :: N₂) h₂ l₂ ∧ allIntKeys vs = true ∧ ((intKeyPairs vs).map (·.1)).Nodup ∧
        ∀ o h₃, Fm G₂ L₂ ((d, o) :: N₂) h₃ l₂ → o.IsDictOf (intKind prog w) (intKeyPairs vs) → Q (.ref d) h₃))
    (F : Fm G L N h l := by walk_at "as") (S : Stat K mg mb G := by walk_at "as")
    (hall : keys.all (·.isSome) = true := by exact rfl) (hl : keys.length = values.length := by exact rfl) (h0 : keys ≠ [] := by exact List.cons_ne_nil _ _) (hlen : keys.length ≤ 15 := by decide) :
    W prog w s A h (eval (.Dict keys values pos) env) Q := W.mk fun tk => by
  obtain ⟨m, fr⟩ := F.fr
  refine Dict_made (knd := intKind prog w) fr hall hl h0 hlen fun F' => ?_
  refine (k h.objs.size _ (F.alloc _) (fun _ _ e => Heap.get?_push_of_some _ e) (Heap.get?_size_none h) (notModules S F (Nat.le_refl _))).via tk fun vs h₂ tk' q => ?_
  obtain ⟨G₂, L₂, N₂, l₂, F₂, hk, hn, q⟩ := q
  refine display_done_int hk hn ⟨_, #[], 0, F₂.get (.head _), ⟨rfl, rfl, rfl⟩, rfl, fun e he => by simp at he, .nil, .nil⟩ fun h' hm hs => ?_
  obtain ⟨o', ho', hd'⟩ := Heap.dictOf_iff.mp hm
  exact ⟨_, _, rfl, q o' h' (F₂.set .head (SameBut.ext hs) ho') hd'⟩
theorem w_pairs0 {Q : List (Value × Value) → Heap → Prop} (k : Q [] h) : W prog w s A h (evalPairs []) Q := W.mk fun _ => evalPairs_nil ⟨_, _, rfl, k⟩
theorem w_pairs {a b : Expr} {ks : List (Option Expr)} {vs : List Expr} {pos : Pos} {Q : List (Value × Value) → Heap → Prop}
    (k : W prog w s A h (eval a env) (Kpr prog w s A (eval b env) (evalPairs (pairTrees ks vs env pos)) Q)) :
    W prog w s A h (evalPairs (pairTrees (some a :: ks) (b :: vs) env pos)) Q := W.mk fun tk =>
  evalPairs_cons (k.via tk fun u _ tk' q => wpAny_bind (q.via tk' fun v _ tk'' q => wpAny_bind (wpAny_standAt (wpAny_pure (q.via tk'' fun _ _ _ q => ⟨_, _, rfl, q⟩)))))
theorem w_withB {f : Value} {first : List Value} {pos : Pos} {e : Expr} {rest : List Expr} {Q : Value → Heap → Prop}
    (k : W prog w s A h (spliced (backTo pos (starEach (e :: rest) env))) (Kcl prog w s A f first Q)) (hf : keeperOf f = Pure.pure .machine := by with_unfolding_all rfl)
    (he : starEach (e :: rest) env = (false, eval e env) :: starEach rest env := by with_unfolding_all rfl) (hplain : (backTo pos (starEach rest env)).any (·.1) = false := by with_unfolding_all rfl) :
    W prog w s A h (callWith pos f first (backTo pos (starEach (e :: rest) env)) []) Q := W.mk fun tk => by
  rw [he] at k ⊢
  exact callWith_of (P := fun _ => True) (by show ((false || (backTo pos (starEach rest env)).any (·.1)) || false) = false; rw [hplain]; rfl) (fun _ _ => ⟨.machine, .inr (.inl rfl), Looks.of_pure hf⟩) (evalArgs_plain (k.via tk fun _ _ tk' q => ⟨trivial, q.out tk'⟩))
theorem w_withB0 {f : Value} {first : List Value} {pos : Pos} {Q : Value → Heap → Prop} (k : W prog w s A h (call f first) Q) (hf : keeperOf f = Pure.pure .machine := by with_unfolding_all rfl) :
    W prog w s A h (callWith pos f first (backTo pos (starEach [] env)) []) Q := W.mk fun tk => callWith_of (P := fun _ => True) rfl (fun _ _ => ⟨.machine, .inr (.inl rfl), Looks.of_pure hf⟩) (evalArgs_nil3 ⟨trivial, by rw [List.append_nil]; exact k.out tk⟩)
end
section
variable {prog : Program} {w : World} {s : Shared} {A : Around} {h : Heap} {env : Env}
variable {G : PH} {L : Addr} {N : List (Addr × Obj)} {l : List (Str × Value)}
variable {K : Frag} {mg mb : Str → Option Value}

theorem codeAny_false {M : Model} {c : Code} {R : Result → Shared → Prop} {s' : Shared} (h : codeAny M A c (fun r s => match r with | .ok f => R (.ok f) s | .error _ => False) s') : codeAny M A c R s' :=
  codeAny_mono h fun r s q => by
    cases r with
    | error e => exact q.elim
    | ok f => exact q
/-- a while -/
theorem w_while {test : Expr} {body : List Stmt} {pos : Pos} {rest : List Stmt} {Q : Flow → Heap → Prop} (I : Nat → Heap → Prop)
    (turn : ∀ n h, I n h → W prog w s A h (isTrue test env (eval test env)) (fun b h₂ =>
      (b = true → W prog w s A h₂ (execs body env) (fun f h₃ => match f with
        | .next => ∃ m, m < n ∧ I m h₃
        | .cont => ∃ m, m < n ∧ I m h₃
        | .brk => W prog w s A h₃ (execs rest env) Q
        | .ret v => Q (.ret v) h₃)) ∧ (b = false → W prog w s A h₂ (execs rest env) Q)))
    (n : Nat) (hI : I n h) : W prog w s A h (execs (.While test body [] pos :: rest) env) Q := by
  refine w_cons (W.mk fun tk => wpAny_While (codeAny_mono (codeAny_whileLoop (R := fun r s' => match r with | .ok f => QQ s (fun f h' => match f with | .next => W prog w s A h' (execs rest env) Q | f => Q f h') f s' | .error _ => False) (fun n s' => ∃ h' tk', s' = { s with heap := h', toks := tk' } ∧ I n h') ?_ n ⟨_, _, rfl, hI⟩) ?_))
  · rintro n s' ⟨h', tk', rfl, hI⟩
    refine wpAny_mono (Q := fun b s₂ => if b = true then _ else _) ((turn n h' hI).via tk' fun b h₂ tk₂ q => ?_) (fun _ _ e => e) fun _ _ e => e.elim
    cases b with
    | true =>
      rw [if_pos rfl]
      refine wpAny_mono ((q.1 rfl).out tk₂) (fun f s₃ q => ?_) fun _ _ e => e.elim
      obtain ⟨h₃, tk₃, rfl, q⟩ := q
      cases f with
      | next => obtain ⟨m, hm, hI⟩ := q; exact ⟨m, hm, _, _, rfl, hI⟩
      | cont => obtain ⟨m, hm, hI⟩ := q; exact ⟨m, hm, _, _, rfl, hI⟩
      | brk => exact ⟨_, _, rfl, q⟩
      | ret v => exact ⟨_, _, rfl, q⟩
    | false =>
      rw [if_neg (by decide)]
      exact wpAny_execs_nil ⟨_, _, rfl, q.2 rfl⟩
  · intro r s' q
    cases r with
    | error e => exact q.elim
    | ok f => exact q

theorem Fm.addr_ne (F : Fm G L N h l) {p : Addr × Obj} (hp : p ∈ N) : p.1 ≠ L := (F.nw p hp).2.2
theorem Fm.swap {N' : List (Addr × Obj)} (F : Fm G L N h l) (hs : ∀ p ∈ N', p ∈ N) (hn : (N'.map (·.1)).Nodup) : Fm G L N' h l := ⟨F.ns, F.keep, F.off, fun p hp => F.nw p (hs p hp), hn⟩

/-- a for, by what walks -/
theorem w_for {target iter : Expr} {body : List Stmt} {pos : Pos} {rest : List Stmt} {Q : Flow → Heap → Prop}
    (k : W prog w s A h (eval iter env) (fun xv h₁ => W prog w s A h₁ (pyIter xv) (fun it h₂ => ∃ I io fp n P St G L N l, ∃ J : Nat → PH → List (Addr × Obj) → List (Str × Value) → Prop,
      it = .ref I ∧ Walks prog w A I fp [I] n P St ∧ (∀ i h, St i h → ∃ o, h.get? I = some o) ∧ (∀ b ∈ fp, b = I ∨ ∃ o, G b = some o) ∧ Fm G L ((I, io) :: N) h₂ l ∧ St 0 h₂ ∧ J 0 G N l ∧
      (∀ i v h' (Q' : Unit → Heap → Prop), St i h' → Q' () h' → W prog w s A h' (letOwnedTupleGo target (.ref I) v) Q') ∧
      (∀ i v G' H N' l' h', i < n → P i v → Le G G' → Fm G' L (H ++ N') h' l' → J i G' N' l' →
        W prog w s A h' (assign target env v) (fun _ h₂ => W prog w s A h₂ (execs body env) (fun f h₃ => match f with
          | .next => ∃ N'' l'', Fm G' L (H ++ N'') h₃ l'' ∧ J (i + 1) (offAll (L :: (H ++ N'').map (·.1)) h₃) N'' l''
          | .cont => ∃ N'' l'', Fm G' L (H ++ N'') h₃ l'' ∧ J (i + 1) (offAll (L :: (H ++ N'').map (·.1)) h₃) N'' l''
          | .brk => W prog w s A h₃ (execs rest env) Q
          | .ret v => Q (.ret v) h₃))) ∧
      (∀ G' N' l' h', Le G G' → Fm G' L N' h' l' → J n G' N' l' → W prog w s A h' (execs rest env) Q))))
    (hs : ∀ x, foldedSetIterable iter env x = Pure.pure x := by intro _; rfl) :
    W prog w s A h (execs (.For target iter body [] pos :: rest) env) Q := by
  refine w_cons (W.mk fun tk => wpAny_For (k.via tk fun xv h₁ tk₁ k => k.via tk₁ fun it h₂ tk₂ k => ?_) hs)
  obtain ⟨I, io, fp, n, P, St, G, L, N, l, J, rfl, Wk, alive, hfp, F, hst, hJ, go, turn, done⟩ := k
  refine codeAny_mono (codeAny_forLoop_any (R := fun r s' => match r with | .ok f => QQ s (fun f h' => match f with | .next => W prog w s A h' (execs rest env) Q | f => Q f h') f s' | .error _ => False)
    (fun m s' => ∃ i G' N' l' h' tk' io', s' = { s with heap := h', toks := tk' } ∧ i ≤ n ∧ m = n - i ∧ Le G G' ∧ Fm G' L ((I, io') :: N') h' l' ∧ St i h' ∧ J i G' N' l') ?_ n ⟨0, G, N, l, h₂, tk₂, io, rfl, Nat.zero_le _, rfl, Le.refl _, F, hst, hJ⟩) ?_
  · rintro m s' ⟨i, G', N', l', h', tk', io', rfl, hi, rfl, hG, F, hst, hJ⟩
    rcases Nat.lt_or_ge i n with hlt | hge
    · refine Wk.item i _ _ _ hlt hst fun v h₁ tk₁ hP hst₁ kp => ?_
      obtain ⟨io₁, e₁⟩ := alive _ _ hst₁
      have F₁ : Fm G' L ((I, io₁) :: N') h₁ l' := F.set .head (fun b x hb e => kp b x (by simpa using hb) e) e₁
      refine wpAny_mono ((go (i + 1) v h₁ (fun _ h' => h' = h₁) hst₁ rfl).via tk₁ (fun _ h' tk' e => ?_)) (fun _ _ e => e) fun _ _ e => e.elim
      subst e
      refine wpAny_mono ((turn i v G' [(I, io₁)] N' l' _ hlt hP hG F₁ hJ).via tk' fun _ h₂ tk₂ q => ?_) (fun _ _ e => e) fun _ _ e => e.elim
      refine wpAny_mono (q.out tk₂) (fun f s₃ q => ?_) fun _ _ e => e.elim
      obtain ⟨h₃, tk₃, rfl, q⟩ := q
      have nx : (∃ N'' l'', Fm G' L ([(I, io₁)] ++ N'') h₃ l'' ∧ J (i + 1) (offAll (L :: ([(I, io₁)] ++ N'').map (·.1)) h₃) N'' l'') → ∃ m, m < n - i ∧ ∃ i G' N' l' h' tk' io', ({ s with heap := h₃, toks := tk₃ } : Shared) = { s with heap := h', toks := tk' } ∧ i ≤ n ∧ m = n - i ∧ Le G G' ∧ Fm G' L ((I, io') :: N') h' l' ∧ St i h' ∧ J i G' N' l' := by
        rintro ⟨N'', l'', F₃, hJ₃⟩
        obtain ⟨r1, r2⟩ := F₃.rebase
        refine ⟨n - (i + 1), by omega, i + 1, _, N'', l'', h₃, tk₃, io₁, rfl, hlt, rfl, hG.trans r1, r2, Wk.frame _ _ _ hst₁ (fun b hb o e => ?_), hJ₃⟩
        rcases hfp b hb with rfl | ⟨o', e'⟩
        · have e1 := F₁.get (a := b) (o := io₁) (.head _)
          have e2 := F₃.get (a := b) (o := io₁) (.head _)
          rw [e1] at e; rw [e2]; exact e
        · have e1 := hG _ _ e'
          have e2 := F₁.keep _ _ e1
          rw [e2] at e; cases e
          exact F₃.keep _ _ e1
      cases f with
      | next => exact nx q
      | cont => exact nx q
      | brk => exact ⟨_, _, rfl, q⟩
      | ret v => exact ⟨_, _, rfl, q⟩
    · have hin : i = n := Nat.le_antisymm hi hge
      subst hin
      refine Wk.done _ _ _ hst fun h₁ tk₁ kp => ?_
      refine wpAny_execs_nil ⟨_, _, rfl, ?_⟩
      have F₀ : Fm G' L N' h' l' := F.drop
      have In : ∀ p ∈ N', p.1 ≠ I := fun p hp e => by
        have := F.nd
        rw [List.map_cons, List.nodup_cons] at this
        exact this.1 (List.mem_map.mpr ⟨p, hp, e⟩)
      refine done G' N' l' h₁ hG ⟨F.ns.at' fun o e => kp _ _ (by simpa using Ne.symm (F.addr_ne (.head _))) e, fun b o e => kp b o (fun hb => ?_) (F.keep b o e), F.off, fun p hp => ⟨kp _ _ (by simpa using In p hp) (F₀.nw p hp).1, (F₀.nw p hp).2⟩, F₀.nd⟩ hJ
      have := (F.nw _ (.head _)).2.1
      rw [List.mem_singleton] at hb
      rw [← hb, e] at this; cases this
  · intro r s' q
    cases r with
    | error e => exact q.elim
    | ok f => exact q
theorem w_asgName {x : Str} {p : Pos} {v : Value} {Q : Unit → Heap → Prop} (k : W prog w s A h (storeName env x v) Q) : W prog w s A h (assign (.Name x p) env v) Q := W.mk fun tk => assign_Name (k.out tk)
/-- the turns of a loop: one statement of them for all that walks -/
noncomputable def Turns (prog : Program) (w : World) (s : Shared) (A : Around) (env : Env) (target : Expr) (body rest : List Stmt) (Q : Flow → Heap → Prop) (n : Nat) (P : Nat → Value → Prop) (G : PH) (L : Addr)
    (J : Nat → PH → List (Addr × Obj) → List (Str × Value) → Prop) : Prop :=
  (∀ i v G' H N' l' h', i < n → P i v → Le G G' → Fm G' L (H ++ N') h' l' → J i G' N' l' →
        W prog w s A h' (assign target env v) (fun _ h₂ => W prog w s A h₂ (execs body env) (fun f h₃ => match f with
          | .next => ∃ N'' l'', Fm G' L (H ++ N'') h₃ l'' ∧ J (i + 1) (offAll (L :: (H ++ N'').map (·.1)) h₃) N'' l''
          | .cont => ∃ N'' l'', Fm G' L (H ++ N'') h₃ l'' ∧ J (i + 1) (offAll (L :: (H ++ N'').map (·.1)) h₃) N'' l''
          | .brk => W prog w s A h₃ (execs rest env) Q
          | .ret v => Q (.ret v) h₃))) ∧
      (∀ G' N' l' h', Le G G' → Fm G' L N' h' l' → J n G' N' l' → W prog w s A h' (execs rest env) Q)
/-- a for over a list that stands -/
theorem w_forList {x : Str} {px : Pos} {iter : Expr} {body : List Stmt} {pos : Pos} {rest : List Stmt} {Q : Flow → Heap → Prop}
    (k : W prog w s A h (eval iter env) (fun xv h₁ => ∃ a vs G L N l, ∃ J : Nat → PH → List (Addr × Obj) → List (Str × Value) → Prop,
      xv = .ref a ∧ A.handled = none ∧ LstG G a vs ∧ Fm G L N h₁ l ∧ J 0 G N l ∧ Turns prog w s A env (.Name x px) body rest Q vs.length (fun i v => vs[i]? = some v) G L J))
    (hs : ∀ x, foldedSetIterable iter env x = Pure.pure x := by intro _; rfl) :
    W prog w s A h (execs (.For (.Name x px) iter body [] pos :: rest) env) Q := by
  refine w_for (k.mono fun xv h₁ q => ?_) hs
  obtain ⟨a, vs, G, L, N, l, J, rfl, hh, I, F, hJ, turn, done⟩ := q
  have Ih := I.mono F.keep
  have ne : a ≠ h₁.objs.size := fun e => by
    obtain ⟨o, ho, _⟩ := Ih
    rw [e, Heap.get?_size_none] at ho; cases ho
  refine W.mk fun tk => wpAny_pyIter_list Ih.is ⟨_, _, rfl, h₁.objs.size, _, [h₁.objs.size, a], vs.toArray.size, fun i v => vs.toArray[i]? = some v, fun i h => h.IsListIter h₁.objs.size a i ∧ h.IsList a vs.toArray, G, L, N, l, J, rfl,
    Walks.list hh _ a ne vs.toArray, fun i h st => let ⟨o, e, _⟩ := st.1; ⟨o, e⟩, fun b hb => ?_, F.alloc _, ⟨⟨_, Heap.get?_push_size _ rfl, rfl, rfl⟩, (I.mono (F.push _).keep).is⟩, hJ, ?_, ?_, ?_⟩
  · rcases List.mem_cons.mp hb with e | hb
    · exact .inl e
    · rw [List.mem_singleton.mp hb]
      obtain ⟨o, ho, _⟩ := I
      exact .inr ⟨o, ho⟩
  · intro i v h' Q' _ q
    exact W.mk fun _ => wpAny_pure ⟨_, _, rfl, q⟩
  · intro i v G' H N' l' h' hi hP hG F' hJ'
    exact turn i v G' H N' l' h' (by simpa using hi) (by simpa using hP) hG F' hJ'
  · intro G' N' l' h' hG F' hJ'
    exact done G' N' l' h' hG F' (by simpa using hJ')
/-- a for over a tuple that stands -/
theorem w_forTup {x : Str} {px : Pos} {iter : Expr} {body : List Stmt} {pos : Pos} {rest : List Stmt} {Q : Flow → Heap → Prop}
    (k : W prog w s A h (eval iter env) (fun xv h₁ => ∃ a vs G L N l, ∃ J : Nat → PH → List (Addr × Obj) → List (Str × Value) → Prop,
      xv = .ref a ∧ A.handled = none ∧ TupG G a vs ∧ Fm G L N h₁ l ∧ J 0 G N l ∧ Turns prog w s A env (.Name x px) body rest Q vs.length (fun i v => vs[i]? = some v) G L J))
    (hs : ∀ x, foldedSetIterable iter env x = Pure.pure x := by intro _; rfl) :
    W prog w s A h (execs (.For (.Name x px) iter body [] pos :: rest) env) Q := by
  refine w_for (k.mono fun xv h₁ q => ?_) hs
  obtain ⟨a, vs, G, L, N, l, J, rfl, hh, I, F, hJ, turn, done⟩ := q
  have Ih := I.mono F.keep
  have ne : a ≠ h₁.objs.size := fun e => by
    obtain ⟨o, ho, _⟩ := Ih
    rw [e, Heap.get?_size_none] at ho; cases ho
  refine W.mk fun tk => iter_tuple Ih.is ⟨_, _, rfl, h₁.objs.size, _, [h₁.objs.size, a], vs.toArray.size, fun i v => vs.toArray[i]? = some v, fun i h => IsTupIter h h₁.objs.size a i ∧ IsTup h a vs.toArray, G, L, N, l, J, rfl,
    Walks.tuple hh _ a ne vs.toArray, fun i h st => let ⟨o, e, _⟩ := st.1; ⟨o, e⟩, fun b hb => ?_, F.alloc _, ⟨⟨_, Heap.get?_push_size _ rfl, rfl, rfl⟩, (I.mono (F.push _).keep).is⟩, hJ, ?_, ?_, ?_⟩
  · rcases List.mem_cons.mp hb with e | hb
    · exact .inl e
    · rw [List.mem_singleton.mp hb]
      obtain ⟨o, ho, _⟩ := I
      exact .inr ⟨o, ho⟩
  · intro i v h' Q' _ q
    exact W.mk fun _ => wpAny_pure ⟨_, _, rfl, q⟩
  · intro i v G' H N' l' h' hi hP hG F' hJ'
    exact turn i v G' H N' l' h' (by simpa using hi) (by simpa using hP) hG F' hJ'
  · intro G' N' l' h' hG F' hJ'
    exact done G' N' l' h' hG F' (by simpa using hJ')
/-- a range's object -/
noncomputable def RngG (h : Heap) (r : Addr) (a b c : Int) : Prop := ∃ t u v, IsRange h r a b c t u v
theorem w_range1 {b : Int} {t : Tok} {Q : Value → Heap → Prop} (k : ∀ h', Le h.get? h'.get? → ∀ r, RngG h' r 0 b 1 → Q (.ref r) h') : W prog w s A h (call (.type "range") [.int b t]) Q :=
  W.mk fun tk => call_range_1 ⟨_, _, rfl, k _ (fun _ _ e => Heap.get?_push_of_some _ e) _ ⟨_, _, _, IsRange.new ..⟩⟩
theorem w_range3 {a b c : Int} {t u v : Tok} {Q : Value → Heap → Prop} (hc : c ≠ 0) (hs : c.natAbs < 1073741824) (k : ∀ h', Le h.get? h'.get? → ∀ r, RngG h' r a b c → Q (.ref r) h') :
    W prog w s A h (call (.type "range") [.int a t, .int b u, .int c v]) Q :=
  W.mk fun tk => call_range_3 hc ⟨_, _, rfl, k _ (fun _ _ e => Heap.get?_push_of_some _ e) _ ⟨_, _, _, IsRange.new ..⟩⟩ (.inl (PyProof.noPylong_small hs))
/-- a for over a range -/
theorem w_forRange {x : Str} {px : Pos} {iter : Expr} {body : List Stmt} {pos : Pos} {rest : List Stmt} {Q : Flow → Heap → Prop}
    (k : W prog w s A h (eval iter env) (fun xv h₁ => ∃ r a b c n G L N l, ∃ J : Nat → PH → List (Addr × Obj) → List (Str × Value) → Prop,
      xv = .ref r ∧ A.handled = none ∧ RngG h₁ r a b c ∧ Builtin.Range.small a b c = true ∧ Builtin.Range.rangeSize a b c = ((n : Nat) : Int) ∧ Fm G L N h₁ l ∧ J 0 G N l ∧
      Turns prog w s A env (.Name x px) body rest Q n (fun i v => ∃ t, v = .int (a + i * c) t) G L J))
    (hs : ∀ x, foldedSetIterable iter env x = Pure.pure x := by intro _; rfl) :
    W prog w s A h (execs (.For (.Name x px) iter body [] pos :: rest) env) Q := by
  refine w_for (k.mono fun xv h₁ q => ?_) hs
  obtain ⟨r, a, b, c, n, G, L, N, l, J, rfl, hh, ⟨t, u, v, hr⟩, sm, hn, F, hJ, turn, done⟩ := q
  refine W.mk fun tk => wpAny_pyIter_range hr sm ⟨_, _, rfl, h₁.objs.size, _, [h₁.objs.size], n, _, _, G, L, N, l, J, rfl,
    Walks.range hh _ a c n, fun i h st => ⟨_, st⟩, fun b hb => .inl (List.mem_singleton.mp hb), F.alloc _, (by show IsRangeIter _ _ _ _ _; rw [hn]; simpa using Heap.get?_push_size _ rfl), hJ, ?_, turn, done⟩
  intro i v h' Q' _ q
  exact W.mk fun _ => wpAny_pure ⟨_, _, rfl, q⟩
end
section
variable {prog : Program} {w : World} {s : Shared} {A : Around} {h : Heap} {env : Env}
variable {G : PH} {L : Addr} {N : List (Addr × Obj)} {l : List (Str × Value)}
variable {K : Frag} {mg mb : Str → Option Value} {g : Obj → List (Addr × Obj)} {o : Obj} {a : Addr}

/-- a ledger's entry, open to a change -/
inductive AtF (d : Addr) (o : Obj) : List (Addr × Obj) → (Obj → List (Addr × Obj)) → Prop
  | head {r : List (Addr × Obj)} : AtF d o ((d, o) :: r) (fun o' => (d, o') :: r)
  | tail {p : Addr × Obj} {r : List (Addr × Obj)} {g : Obj → List (Addr × Obj)} : AtF d o r g → AtF d o (p :: r) (fun o' => p :: g o')
  | app {H r : List (Addr × Obj)} {g : Obj → List (Addr × Obj)} : AtF d o r g → AtF d o (H ++ r) (fun o' => H ++ g o')
theorem AtF.at (u : AtF a o N g) (o' : Obj) : At a o o' N (g o') := by
  induction u with
  | head => exact .head
  | tail _ ih => exact .tail ih
  | @app H r g _ ih =>
    induction H with
    | nil => exact ih
    | cons p q ih' => exact .tail ih'
theorem AtF.mem (u : AtF a o N g) : (a, o) ∈ N := (u.at o).mem

/-- what a ledger's object holds -/
noncomputable def DF (o : Obj) (fs : List (Str × Value)) : Prop := ∃ es n, o = dictOf es n ∧ FieldsAre es fs
noncomputable def LO (o : Obj) (vs : List Value) : Prop := o.cls = .type "list" ∧ ∃ n, o.data = .seq vs.toArray n
theorem LO.lst {G : PH} {vs : List Value} (D : LO o vs) (e : G a = some o) : LstG G a vs := ⟨o, e, D⟩
theorem LO.new {vs : List Value} {n : Nat} : LO { cls := .type "list", data := .seq vs.toArray n } vs := ⟨rfl, n, rfl⟩

theorem FieldsAre.noRef {es : List DictEntry} {fs : List (Str × Value)} (x : FieldsAre es fs) : es.any (·.refKey) = false := by
  induction x with
  | nil => rfl
  | cons _ ih => rw [List.any_cons, ih]; rfl
theorem w_setattr {x C dx : Addr} {name : Str} {v : Value} {od : Obj} {fs : List (Str × Value)} {Q : Unit → Heap → Prop} (F : Fm G L N h l) (S : Stat K mg mb G) (hx : h.get? x = some (instObj C dx)) (U : AtF dx od N g) (D : DF od fs)
    (hs : findIn K (.ref C) "__setattr__" = some (some (.builtin "object.__setattr__"))) (hp : plainOver K C = true) (ht : takerIn K C name = some none) (hh : hasDictIn K C = true) (hz : (putF name v fs).length ≤ 900)
    (k : ∀ o' h', DF o' (putF name v fs) → Fm G L (g o') h' l → Q () h') : W prog w s A h (setAttr (.ref x) name v) Q := W.mk fun tk => by
  obtain ⟨es, n, rfl, fa⟩ := D
  have D := F.get U.mem
  have X := (S.at F.keep).K
  have I : InstAt h x (instObj C dx) C (some (dictOf es n)) := ⟨hx, rfl, rfl, D⟩
  refine set_plain X I hs (osa_open X I hp ht fun b => ?_)
  obtain ⟨cd, hc, hd'⟩ := any_some hh
  have fa' := fa.put name (PyData.keyHash w.params name) (tk + 1) v
  have upd : Obj.putName name (PyData.keyHash w.params name) (.str name (tk + 1)) v (dictOf es n) = dictOf (putL name (PyData.keyHash w.params name) (.str name (tk + 1)) v es) (putN name es n) := putName_dict ..
  have D' := Heap.get?_update_self (Obj.putName name (PyData.keyHash w.params name) (.str name (tk + 1)) v) D (by rw [upd]; rfl)
  refine wpAny_bind (wpAny_pure (wpAny_bind (wpAny_bind (wpAny_loadPart hx (wpAny_bind ((looks_clsIn X hc).here ?_))))))
  rw [hd']
  refine wpAny_pure (a := some dx) (wpAny_bind (wpAny_pure (wpAny_bind ?_)))
  unfold nsSet
  refine wpAny_bind (wpAny_bind (wpAny_askSetting (wpAny_pure (wpAny_bind (wpAny_mkText (wpAny_bind (wpAny_loadPart D ?_)))))))
  have nr := fa.noRef
  dsimp only
  have c : (!es.toArray.any (·.key.isStr name) && es.toArray.any (·.refKey)) = false := by
    rw [List.any_toArray, List.any_toArray, nr, Bool.and_false]
  rw [aRefKeyMayBeTheName_at, c]
  refine wpAny_updatePart D ?_
  rw [upd] at D'
  refine wpAny_bind (wpAny_lookBehind D' (pastItsLine_dict ?_) ?_)
  · have := fa'.length
    rw [List.size_toArray, sizeLine_eq]; omega
  · refine wpAny_pure ⟨_, _, rfl, ?_⟩
    exact k _ _ ⟨_, _, rfl, fa'⟩ (F.set (U.at _) (fun b x hb e => (Heap.get?_update_ne _ _ _ _ hb).trans e) D')

inductive PutF (name : Str) (v : Value) : List (Str × Value) → List (Str × Value) → Prop
  | nil : PutF name v [] [(name, v)]
  | hit {u : Value} {r : List (Str × Value)} : PutF name v ((name, u) :: r) ((name, v) :: r)
  | miss {n : Str} {u : Value} {r r' : List (Str × Value)} : (n == name) = false → PutF name v r r' → PutF name v ((n, u) :: r) ((n, u) :: r')
theorem PutF.eq {name : Str} {v : Value} {fs fs' : List (Str × Value)} (p : PutF name v fs fs') : putF name v fs = fs' := by
  induction p with
  | nil => rfl
  | hit => unfold putF; rw [if_pos (beq_self_eq_true _)]
  | miss h _ ih => unfold putF; rw [if_neg (by rw [h]; decide), ih]
theorem w_setattr2 {x C dx : Addr} {name : Str} {v : Value} {od : Obj} {fs fs' : List (Str × Value)} {Q : Unit → Heap → Prop} (F : Fm G L N h l) (D : DF od fs) (k : ∀ o' h', DF o' fs' → Fm G L (g o') h' l → Q () h')
    (S : Stat K mg mb G := by walk_at "as") (hx : G x = some (instObj C dx) := by walk_at "as") (U : AtF dx od N g := by walk_at "atf")
    (hs : findIn K (.ref C) "__setattr__" = some (some (.builtin "object.__setattr__")) := by k_is) (hp : plainOver K C = true := by k_is) (ht : takerIn K C name = some none := by k_is) (hh : hasDictIn K C = true := by k_is) (pf : PutF name v fs fs' := by walk_at "putf") (hz : fs'.length ≤ 900 := by exact Nat.le_of_ble_eq_true rfl) : W prog w s A h (setAttr (.ref x) name v) Q :=
  w_setattr F S (F.keep _ _ hx) U D hs hp ht hh (pf.eq ▸ hz) (pf.eq ▸ k)
theorem w_assignAttr {oe : Expr} {attr : Str} {p' pos : Pos} {value : Expr} {rest : List Stmt} {Q : Flow → Heap → Prop}
    (k : W prog w s A h (eval value env) (Ksa prog w s A (eval oe env) attr (K0 prog w s A (execs rest env) Q)))
    (hs : swapsWith value (some (.Attribute oe attr p')) pos.line env = pure false := by with_unfolding_all rfl) : W prog w s A h (execs (.Assign [.Attribute oe attr p'] value pos :: rest) env) Q :=
  w_then <| W.mk fun tk => plainObj_wpAny_Assign_Attribute (k.via tk fun v h' tk' q => q.via tk' fun _ _ tk'' q => q.via tk'' fun _ _ _ q => ⟨_, _, rfl, rfl, q⟩) hs
theorem w_assignSub {oe ie : Expr} {p' pos : Pos} {value : Expr} {rest : List Stmt} {Q : Flow → Heap → Prop}
    (k : W prog w s A h (eval value env) (Ksi prog w s A (eval oe env) (eval ie env) (K0 prog w s A (execs rest env) Q)))
    (hs : swapsWith value (some (.Subscript oe ie p')) pos.line env = pure false := by with_unfolding_all rfl) : W prog w s A h (execs (.Assign [.Subscript oe ie p'] value pos :: rest) env) Q :=
  w_then <| W.mk fun tk => wpAny_Assign_Subscript (k.via tk fun v h' tk' q => q.via tk' fun _ _ tk'' q => q.via tk'' fun _ _ tk3 q => q.via tk3 fun _ _ _ q => ⟨_, _, rfl, rfl, q⟩) hs
theorem w_assignTup {elts : List Expr} {kd : Nat} {p' pos : Pos} {value : Expr} {rest : List Stmt} {Q : Flow → Heap → Prop}
    (k : W prog w s A h (eval value env) (Kt prog w s A (assign (.Tuple elts kd p') env) (K0 prog w s A (execs rest env) Q)))
    (hs : swapsWithSole [.Tuple elts kd p'] value pos.line env = pure false := by with_unfolding_all rfl) (hw : swappedStores [.Tuple elts kd p'] value env = pure none := by with_unfolding_all rfl) : W prog w s A h (execs (.Assign [.Tuple elts kd p'] value pos :: rest) env) Q :=
  w_then <| W.mk fun tk => Assign_Tuple (k.via tk fun v h' tk' q => q.via tk' fun _ _ _ q => ⟨_, _, rfl, rfl, q⟩) hs hw
theorem w_assignTupS {elts : List Expr} {kd : Nat} {p' pos : Pos} {value : Expr} {rest : List Stmt} {names : List Str} {Q : Flow → Heap → Prop}
    (hw : swappedStores [.Tuple elts kd p'] value env = pure (some names))
    (k : W prog w s A h (eval value env) (Kun prog w s A names.length (names.reverse.map fun n => bindName env n) (K0 prog w s A (execs rest env) Q)))
    (hs : swapsWithSole [.Tuple elts kd p'] value pos.line env = pure false := by with_unfolding_all rfl) : W prog w s A h (execs (.Assign [.Tuple elts kd p'] value pos :: rest) env) Q :=
  w_then <| W.mk fun tk => Assign_Tuple_swapped (k.via tk fun v h' tk' q => q.via tk' fun _ _ tk'' q => q.via tk'' fun _ _ _ q => ⟨_, _, rfl, rfl, q⟩) hs hw
theorem w_assignTupS2 {elts : List Expr} {kd : Nat} {p' pos : Pos} {value : Expr} {rest : List Stmt} {n1 n2 : Str} {Q : Flow → Heap → Prop}
    (k : W prog w s A h (eval value env) (Kun prog w s A 2 [bindName env n2, bindName env n1] (K0 prog w s A (execs rest env) Q)))
    (hw : swappedStores [.Tuple elts kd p'] value env = pure (some [n1, n2]) := by with_unfolding_all exact rfl) (hs : swapsWithSole [.Tuple elts kd p'] value pos.line env = pure false := by with_unfolding_all exact rfl) : W prog w s A h (execs (.Assign [.Tuple elts kd p'] value pos :: rest) env) Q := w_assignTupS hw k hs
theorem w_assignTupS3 {elts : List Expr} {kd : Nat} {p' pos : Pos} {value : Expr} {rest : List Stmt} {n1 n2 n3 : Str} {Q : Flow → Heap → Prop}
    (k : W prog w s A h (eval value env) (Kun prog w s A 3 [bindName env n3, bindName env n2, bindName env n1] (K0 prog w s A (execs rest env) Q)))
    (hw : swappedStores [.Tuple elts kd p'] value env = pure (some [n1, n2, n3]) := by with_unfolding_all exact rfl) (hs : swapsWithSole [.Tuple elts kd p'] value pos.line env = pure false := by with_unfolding_all exact rfl) : W prog w s A h (execs (.Assign [.Tuple elts kd p'] value pos :: rest) env) Q := w_assignTupS hw k hs
theorem Fm.low (F : Fm G L N h l) {h' : Heap} (k : ∀ b o, b ≠ h.objs.size → h.get? b = some o → h'.get? b = some o) : Le h.get? h'.get? := fun b o e => k b o (fun q => by rw [q, Heap.get?_size_none] at e; cases e) e
/-- unpacking a tuple that stands -/
theorem w_asgTup {G' : PH} {elts : List Expr} {kd : Nat} {p' : Pos} {t : Addr} {vs : List Value} {Q : Unit → Heap → Prop} (F : Fm G L N h l) (k : ∀ h', Fm G L N h' l → Le h.get? h'.get? → W prog w s A h' (assignInOrder ((assignEach elts env).map (·.2)) vs) Q)
    (hh : A.handled = none := by walk_at "hh") (I : TupG G' t vs := by walk_at "tupg") (kG : Le G' h.get? := by walk_at "le")
    (hn : (assignEach elts env).length = vs.length := by exact rfl) (hstar : (assignEach elts env).findIdx? (·.1) = none := by exact rfl) : W prog w s A h (assign (.Tuple elts kd p') env (.ref t)) Q :=
  W.mk fun tk => assign_Tuple_tuple hh (I.mono kG).is (by simpa using hn) hstar fun h' e => by
    have le : Le h.get? h'.get? := F.low e
    exact (by simpa using k h' (F.keeps le) le : W prog w s A h' (assignInOrder ((assignEach elts env).map (·.2)) vs.toArray.toList) Q).out tk
theorem w_unpackItems {G' : PH} {t : Addr} {vs : List Value} {n : Nat} {Q : List Value → Heap → Prop} (F : Fm G L N h l) (k : ∀ h', Fm G L N h' l → Le h.get? h'.get? → Q vs h') (hh : A.handled = none := by walk_at "hh") (I : TupG G' t vs := by walk_at "tupg") (kG : Le G' h.get? := by walk_at "le") (hn : n = vs.length := by exact rfl) : W prog w s A h (unpackItems (.ref t) n none) Q :=
  W.mk fun tk => by
    have hn' : n = vs.toArray.size := by simpa using hn
    subst hn'
    refine unpackItems_tuple hh (I.mono kG).is fun h' e => ?_
    have le : Le h.get? h'.get? := F.low e
    exact ⟨_, _, rfl, by simpa using k h' (F.keeps le) le⟩
theorem w_inOrder0 {xs : List Value} {Q : Unit → Heap → Prop} (k : Q () h) : W prog w s A h (assignInOrder [] xs) Q := W.mk fun _ => assignInOrder_nil ⟨_, _, rfl, k⟩
theorem w_inOrder {t : Value → Sem Unit} {ts : List (Value → Sem Unit)} {x : Value} {xs : List Value} {Q : Unit → Heap → Prop} (k : W prog w s A h (t x) (K0 prog w s A (assignInOrder ts xs) Q)) :
    W prog w s A h (assignInOrder (t :: ts) (x :: xs)) Q := W.mk fun tk => assignInOrder_cons (k.nest tk)
theorem w_bindName {x : Str} {v : Value} {Q : Unit → Heap → Prop} (k : W prog w s A h (storeName env x v) Q) : W prog w s A h (bindName env x v) Q := W.mk fun tk => bindName_ (k.out tk)
theorem w_asgAttr {oe : Expr} {attr : Str} {pos : Pos} {v : Value} {Q : Unit → Heap → Prop} (k : W prog w s A h (eval oe env) (Ksb prog w s A attr v Q)) :
    W prog w s A h (assign (.Attribute oe attr pos) env v) Q := W.mk fun tk => by
  rw [assign_Attribute]
  refine wpAny_bind (wpAny_holding (k.via tk fun ov h₁ tk₁ q => ?_))
  refine wpAny_bind (wpAny_standAt (wpAny_bind (wpAny_holding (q.via tk₁ fun _ h₂ tk₂ q => ?_))))
  exact wpAny_release ⟨_, _, rfl, q⟩

/-- lists -/
theorem w_appendM {G' : PH} {vs : List Value} {pl : Sem Bool} {Q : Value × List Value → Heap → Prop} (I : LstG G' a vs) (kG : Le G' h.get?) (hd : ∀ o, G' a = some o → o.dict = none) (k : Q (.builtin "list.append", [.ref a]) h) :
    W prog w s A h (getMethod (.ref a) "append" pl) Q := W.mk fun tk => by
  obtain ⟨o, e, c, d⟩ := I
  exact getMethod_builtin ⟨o, kG _ _ e, c⟩ PySem.F.plainAttrs_list PySem.F.slot_list_append PySem.F.type_list_append (fun b q => by cases q; exact ⟨o, kG _ _ e, hd o e⟩) ⟨_, _, rfl, k⟩
theorem w_append {vs : List Value} {x : Value} {Q : Value → Heap → Prop} (F : Fm G L N h l) (U : AtF a o N g) (D : LO o vs) (hsz : vs.length ≤ sizeLine) (k : ∀ o' h', LO o' (vs ++ [x]) → Fm G L (g o') h' l → Q .none h') :
    W prog w s A h (call (.builtin "list.append") [.ref a, x]) Q := W.mk fun tk => by
  refine wpAny_list_append (items := vs.toArray) ⟨o, F.get U.mem, D⟩ (fun h' hl hs => ?_) (by simpa using hsz)
  obtain ⟨o', e', c, n, d⟩ := hl
  exact ⟨_, _, rfl, k o' h' ⟨c, n, by simpa using d⟩ (F.set (U.at o') (SameBut.ext hs) e')⟩
theorem w_setList {vs : List Value} {i : Int} {t : Tok} {x : Value} {Q : Unit → Heap → Prop} (F : Fm G L N h l) (U : AtF a o N g) (D : LO o vs) (h0 : 0 ≤ i) (hfit : i < 2 ^ 63) (hn : i < vs.length) (k : ∀ o' h', LO o' (vs.set i.toNat x) → Fm G L (g o') h' l → Q () h') :
    W prog w s A h (setItem (.ref a) (.int i t) x) Q := W.mk fun tk => by
  refine wpAny_setItem_list (items := vs.toArray) ⟨o, F.get U.mem, D⟩ h0 hfit (by simpa using hn) (fun h' hl hs => ?_)
  obtain ⟨o', e', c, n, d⟩ := hl
  exact ⟨_, _, rfl, k o' h' ⟨c, n, by simpa using d⟩ (F.set (U.at o') (SameBut.ext hs) e')⟩
theorem w_tlist {G' : PH} {vs : List Value} {Q : Bool → Heap → Prop} (k : Q (!vs.isEmpty) h) (I : LstG G' a vs := by walk_at "as") (kG : Le G' h.get? := by walk_at "le") (hfit : (vs.length : Int) < 2 ^ 63 := by walk_at "om") : W prog w s A h (truthy (.ref a)) Q := W.mk fun tk =>
  wpAny_truthy_list (I.mono kG).is (by simpa using hfit) ⟨_, _, rfl, by simpa using k⟩
/-- dicts with ints for keys -/
theorem w_setDict {kvs : List (Int × Value)} {i : Int} {t : Tok} {x : Value} {Q : Unit → Heap → Prop} (F : Fm G L N h l) (U : AtF a o N g) (D : o.IsDictOf (intKind prog w) kvs) (hsz : kvs.length ≤ sizeLine)
    (k : ∀ o' h', o'.IsDictOf (intKind prog w) (stored kvs i x) → Fm G L (g o') h' l → Q () h') :
    W prog w s A h (setItem (.ref a) (.int i t) x) Q := W.mk fun tk => by
  refine wpAny_setItem_pairs (intKind_is _ _ i t) (Heap.dictOf_iff.mpr ⟨o, F.get U.mem, D⟩) (fun h' hm hs => ?_) hsz
  obtain ⟨o', e', d⟩ := Heap.dictOf_iff.mp hm
  exact ⟨_, _, rfl, k o' h' d (F.set (U.at o') (SameBut.ext hs) e')⟩
theorem w_dict0 {pos : Pos} {Q : Value → Heap → Prop} (F : Fm G L N h l)
    (k : ∀ d o h', Fm G L ((d, o) :: N) h' l → Le h.get? h'.get? → h.get? d = none → (d == sysModules) = false → o.IsDictOf (intKind prog w) [] → Q (.ref d) h') (S : Stat K mg mb G := by walk_at "as") :
    W prog w s A h (eval (.Dict [] [] pos) env) Q := W.mk fun tk =>
  wpAny_Dict_empty ⟨_, _, rfl, k _ _ _ (F.alloc _) (fun _ _ e => Heap.get?_push_of_some _ e) (Heap.get?_size_none h) (notModules S F (Nat.le_refl _)) ⟨#[], 0, ⟨rfl, rfl, rfl⟩, rfl, fun e he => by simp at he, .nil, .nil⟩⟩

/-- in a tuple -/
theorem w_inTupInt {G' : PH} {vs : List Value} {ns : List Int} {x : Int} {u : Tok} {Q : Value → Heap → Prop} (k : Q (.bool (ns.any (· == x))) h) (I : TupG G' a vs := by walk_at "as") (kG : Le G' h.get? := by walk_at "le") (hi : IntsAre vs ns := by repeat constructor) :
    W prog w s A h (compareOp .In (.int x u) (.ref a)) Q := W.mk fun tk => in_tuple_ints (I.mono kG).is (by simpa using hi) ⟨_, _, rfl, k⟩
theorem w_notInStrs {G' : PH} {vs : List Value} {ys : List Str} {x : Str} {u : Tok} {Q : Value → Heap → Prop} (k : Q (.bool (!(ys.any (· == x)))) h) (I : TupG G' a vs := by walk_at "as") (kG : Le G' h.get? := by walk_at "le") (hi : StrsAre vs ys := by repeat constructor) :
    W prog w s A h (compareOp .NotIn (.str x u) (.ref a)) Q := W.mk fun tk => notin_tuple_strs (I.mono kG).is (by simpa using hi) ⟨_, _, rfl, k⟩
theorem w_inTup {G' : PH} {vs : List Value} {x : Value} {xs : List PyData} {d : PyData} {as bs : List Addr} {Q : Value → Heap → Prop} (kG : Le G' h.get?) (rc : Reads h (.ref a) (.tuple xs) as) (rx : Reads h x d bs) (hxs : PyData.canLayAll0 xs = true) (hd : d.canLay0 = true)
    (hu : A.units + 1 + min (PyData.depthAll xs) d.depth < cLine) (k : Q (.bool (xs.any fun y => PyData.eqv y d)) h) : W prog w s A h (compareOp .In x (.ref a)) Q := W.mk fun tk => SeqAt.in_tuple_reads rc rx hxs hd hu ⟨_, _, rfl, k⟩
theorem w_notInTup {x : Value} {xs : List PyData} {d : PyData} {as bs : List Addr} {Q : Value → Heap → Prop} (rc : Reads h (.ref a) (.tuple xs) as) (rx : Reads h x d bs) (hxs : PyData.canLayAll0 xs = true) (hd : d.canLay0 = true)
    (hu : A.units + 1 + min (PyData.depthAll xs) d.depth < cLine) (k : Q (.bool (!xs.any fun y => PyData.eqv y d)) h) : W prog w s A h (compareOp .NotIn x (.ref a)) Q := W.mk fun tk => SeqAt.notIn_tuple_reads rc rx hxs hd hu ⟨_, _, rfl, k⟩
theorem w_ne_reads {u v : Value} {da db : PyData} {as bs : List Addr} {Q : Value → Heap → Prop} (ra : Reads h u da as) (rb : Reads h v db bs) (ha : SeqAt.shaped da = true) (hb : SeqAt.shaped db = true) (hu : A.units + 64 < cLine) (k : Q (.bool (!PyData.eqv da db)) h) :
    W prog w s A h (compareOp .NotEq u v) Q := W.mk fun tk => ne_dataH ra rb ha hb hu ⟨_, _, rfl, k⟩
theorem w_app0 {r : List Stmt} {Q : Flow → Heap → Prop} (k : W prog w s A h (execs r env) Q) : W prog w s A h (execs ([] ++ r) env) Q := k
theorem w_appc {x : Stmt} {b r : List Stmt} {Q : Flow → Heap → Prop} (k : W prog w s A h (execs (x :: (b ++ r)) env) Q) : W prog w s A h (execs ((x :: b) ++ r) env) Q := k
theorem w_tifexp {t b o : Expr} {pos : Pos} {wh : Sem Value} {Q : Bool → Heap → Prop}
    (k : W prog w s A h (isTrue t env (eval t env)) (Kif prog w s A (isTrue b env (eval b env)) (isTrue o env (eval o env)) Q)) : W prog w s A h (isTrue (.IfExp t b o pos) env wh) Q :=
  W.mk fun tk => isTrue_IfExp (k.via tk fun c _ tk' q => by
    cases c
    · exact (q.2 rfl).out tk'
    · exact (q.1 rfl).out tk')
/-- chains for a value -/
theorem w_chain {x : Expr} {o1 o2 : CmpOp} {ops : List CmpOp} {r1 r2 : Expr} {rs : List Expr} {pos : Pos} {Q : Value → Heap → Prop}
    (k : W prog w s A h (eval x env) (Kcc prog w s A pos (o1 :: o2 :: ops) (eval r1 env :: eval r2 env :: evalEach rs env) Q))
    (hm : lastMarks (o1 :: o2 :: ops) (r1 :: r2 :: rs) = false := by with_unfolding_all rfl) : W prog w s A h (eval (.Compare x (o1 :: o2 :: ops) (r1 :: r2 :: rs) pos) env) Q := W.mk fun tk => Compare_chain (k.nest tk) hm
theorem w_link {pos : Pos} {u : Value} {op op' : CmpOp} {ops : List CmpOp} {r r' : Sem Value} {rs : List (Sem Value)} {Q : Value → Heap → Prop}
    (k : W prog w s A h r (Kcn prog w s A pos op u (op' :: ops) (r' :: rs) Q)) :
    W prog w s A h (compareChain pos u (op :: op' :: ops) (r :: r' :: rs)) Q := W.mk fun tk => chain_link (k.via tk fun _ _ tk' q => q.via tk' fun _ _ tk'' q => q.via tk'' fun t _ tk3 q => by
      cases t
      · exact ⟨_, _, rfl, q.2 rfl⟩
      · exact (q.1 rfl).out tk3)
theorem w_last {pos : Pos} {u : Value} {op : CmpOp} {r : Sem Value} {Q : Value → Heap → Prop}
    (k : W prog w s A h r (Kt prog w s A (compareOp op u) Q)) : W prog w s A h (compareChain pos u [op] [r]) Q :=
  W.mk fun tk => chain_last (k.nest tk)
theorem fin_bool {Q : Value → Heap → Prop} {b b' : Bool} (k : Q (.bool b') h) (e : b = b') : Q (.bool b) h := e ▸ k
theorem fin_int {Q : Value → Heap → Prop} {b b' : Int} {t : Tok} (k : Q (.int b' t) h) (e : b = b') : Q (.int b t) h := e ▸ k
/-- lists that go along -/
theorem prd_mono {α β : Type} {R R' : α → β → Prop} {l : List α} {m : List β} (p : Paired R l m) (f : ∀ a b, R a b → R' a b) : Paired R' l m := by
  induction p with
  | nil => exact .nil
  | cons e _ ih => exact .cons (f _ _ e) ih
end
theorem prd_get {α β : Type} {R : α → β → Prop} {l : List α} {m : List β} (p : Paired R l m) : ∀ {i : Nat} {b : β}, m[i]? = some b → ∃ a, l[i]? = some a ∧ R a b := by
  induction p with
  | nil => intro i b e; simp at e
  | cons e _ ih =>
    intro i b q
    cases i with
    | zero => simp at q; subst q; exact ⟨_, rfl, e⟩
    | succ i => simpa using ih (by simpa using q)
section
variable {prog : Program} {w : World} {s : Shared} {A : Around} {h : Heap} {env : Env}
variable {G : PH} {L : Addr} {N : List (Addr × Obj)} {l : List (Str × Value)}
variable {K : Frag} {mg mb : Str → Option Value} {g : Obj → List (Addr × Obj)} {o : Obj} {a : Addr}

/-- an instance made between two heaps -/
noncomputable def InstF (h h' : Heap) (x C : Addr) (fs : List (Str × Value)) : Prop := ∃ dx es n, h.get? x = none ∧ h.get? dx = none ∧ x ≠ dx ∧ h'.get? x = some (instObj C dx) ∧ h'.get? dx = some (dictOf es n) ∧ FieldsAre es fs
theorem InstF.here {h' : Heap} {x C : Addr} {fs : List (Str × Value)} (I : InstF h h' x C fs) : InstG h'.get? x C fs := let ⟨dx, es, n, _, _, _, a, b, c⟩ := I; ⟨dx, es, n, a, b, c⟩
theorem InstF.keeps {h' h'' : Heap} {x C : Addr} {fs : List (Str × Value)} (I : InstF h h' x C fs) (k : Le h'.get? h''.get?) : InstF h h'' x C fs :=
  let ⟨dx, es, n, a, b, c, d, e, f⟩ := I; ⟨dx, es, n, a, b, c, k _ _ d, k _ _ e, f⟩
theorem InstF.back {h₀ h' : Heap} {x C : Addr} {fs : List (Str × Value)} (I : InstF h h' x C fs) (k : Le h₀.get? h.get?) : InstF h₀ h' x C fs := by
  obtain ⟨dx, es, n, a, b, r⟩ := I
  refine ⟨dx, es, n, ?_, ?_, r⟩
  · cases q : h₀.get? x with
    | none => rfl
    | some o => rw [k _ _ q] at a; cases a
  · cases q : h₀.get? dx with
    | none => rfl
    | some o => rw [k _ _ q] at b; cases b
/-- a class's own __init__, walked -/
inductive Ctor (prog : Program) (w : World) (s : Shared) (K : Frag) (mg mb : Str → Option Value) (C : Addr) (n : Nat) (vals : List Value) (binds : Addr → List (Str × Value)) (P : List (Str × Value) → Prop) (h : Heap) : Prop
  | mk {fI : Addr} {name qual : Str} {params : Arguments} {body : List Stmt} {scope : Scope} {dV kV doc pm cdv ct oc : Value} {an od : Option Addr} {osl : Array (Option Value)}
    (bd : ∀ L x dx G h₁ A', Rm A' n → let env := envOf qual scope L fI cdv; Fm G L [(dx, dictOf [] 0)] h₁ (binds x).reverse → Stat K mg mb G → G x = some (instObj C dx) → DF (dictOf [] 0) [] → Le h.get? G →
      W prog w s A' h₁ (execs body env) (fun fl h' => rv fl = .none ∧ ∃ o l fs, DF o fs ∧ P fs ∧ Fm G L [(dx, o)] h' l))
    (hm : makesIn K C = true := by k_is) (hi : findIn K (.ref C) "__init__" = some (some (.ref fI)) := by k_is) (hf : typeIn K (.ref fI) = some (.type "function") := by k_is)
    (ho : K.lookup fI = some ⟨oc, od, .func (fnOf name qual params body scope dV kV doc pm an cdv ct), osl⟩ := by k_is) (hcd : codeIn K cdv qual = true := by k_is)
    (hbind : ∀ x (h' : Heap), K.In h' → ∀ tk, BindsTo ({ s with heap := h', toks := tk } : Shared) (fnOf name qual params body scope dV kV doc pm an cdv ct) ⟨.ref x :: vals, []⟩ (binds x) := by (intro x h' X tk; first | exact BindsTo.of_eq rfl | exact binds_K X rfl (by k_is) rfl rfl rfl))
    (hloc : ∀ x, ∀ y ∈ binds x, scope.names.lookup y.1 = some .local := by exact fun _ => locs rfl)
    (hcell : ∀ x ∈ scope.names, x.2 ≠ .cell := by decide) (hco : scope.isCoroutine = false := by exact rfl) (hgen : scope.isGenerator = false := by exact rfl) (hk : scope.kind = .function := by exact rfl) : Ctor prog w s K mg mb C n vals binds P h
theorem w_make {C : Addr} {vals : List Value} {Q : Value → Heap → Prop} {n : Nat}
    (binds : Addr → List (Str × Value)) (P : List (Str × Value) → Prop) (S : Stat K mg mb h.get?) (R : Rm A (n + 2)) (k : ∀ h' x fs, Le h.get? h'.get? → InstF h h' x C fs → P fs → Q (.ref x) h') (X : Ctor prog w s K mg mb C n vals binds P h) : W prog w s A h (call (.ref C) vals) Q := by
  obtain ⟨bd, hm, hi, hf, ho, hcd, hbind, hloc, hcell, hco, hgen, hk⟩ := X
  refine wc_w (wc_new (Le.refl _) S hm hi hf fun dx x h' kh ex ed nx nd ne => ?_)
  have le : Le h.get? (offAll [dx] h') := le_offAll kh (by intro a ha; rw [List.mem_singleton.mp ha]; exact nd)
  have ex' : offAll [dx] h' x = some (instObj C dx) := by rw [offAll_out (by simpa using ne)]; exact ex
  refine wc_def (N := [(dx, dictOf [] 0)]) (G := offAll [dx] h') offAll_le (S.mono le) (by
    intro p hp; rw [List.mem_singleton.mp hp]; exact ⟨ed, offAll_in (.head _)⟩) (by simp) (Rm.d (under_new R)) ho hcd (hbind x h' ((S.mono kh).at (Le.refl _)).K) (hloc x) hcell hco hgen hk fun L h₁ k₁ F => ?_
  refine (bd L x dx _ h₁ _ (Rm.deeper (under_new R)) F (S.mono le) ex' ⟨[], 0, rfl, .nil⟩ le).mono ?_
  rintro fl h'' ⟨e, o, l, fs, ⟨es, n, rfl, fa⟩, p, F'⟩
  refine ⟨e, k h'' x fs (le.trans F'.keep) ⟨dx, es, n, nx, nd, ne, F'.keep _ _ ex', F'.get (.head _), fa⟩ p⟩
/-- what a call has made becomes a part of what stands -/
theorem Fm.stand (F : Fm G L N h l) : ∃ G', Le G G' ∧ Fm G' L N h l ∧ ∀ b o, h.get? b = some o → b ≠ L → (∀ p ∈ N, p.1 ≠ b) → G' b = some o :=
  ⟨_, F.rebase.1, F.rebase.2, fun b o e hb hn => by
    rw [offAll_out]
    · exact e
    · intro q
      rcases List.mem_cons.mp q with q | q
      · exact hb q
      · obtain ⟨p, hp, e⟩ := List.mem_map.mp q
        exact hn p hp e⟩
theorem Fm.fresh {h' : Heap} {b : Addr} (F : Fm G L N h l) (n : h.get? b = none) : b ≠ L ∧ ∀ p ∈ N, p.1 ≠ b := by
  refine ⟨fun e => ?_, fun p hp e => ?_⟩
  · obtain ⟨m, ⟨o, _, _, q, _⟩, _⟩ := F.ns
    rw [e, q] at n; cases n
  · rw [← e, (F.nw p hp).1] at n; cases n
theorem InstF.stand {h' : Heap} {x C : Addr} {fs : List (Str × Value)} (I : InstF h h' x C fs) (F : Fm G L N h l) {G' : PH} (q : ∀ b o, h'.get? b = some o → b ≠ L → (∀ p ∈ N, p.1 ≠ b) → G' b = some o) : InstG G' x C fs := by
  obtain ⟨dx, es, n, a, b, c, d, e, f⟩ := I
  exact ⟨dx, es, n, q _ _ d (F.fresh (h' := h') a).1 (F.fresh (h' := h') a).2, q _ _ e (F.fresh (h' := h') b).1 (F.fresh (h' := h') b).2, f⟩
theorem InstF.std {h' : Heap} {x C : Addr} {fs : List (Str × Value)} (I : InstF h h' x C fs) (F : Fm G L N h l) (k : Le h.get? h'.get?) :
    ∃ G', Le G G' ∧ Fm G' L N h' l ∧ InstG G' x C fs ∧ ∀ h₀ h'', Le h₀.get? h.get? → Le G' h''.get? → InstF h₀ h'' x C fs := by
  obtain ⟨G', le, F', q⟩ := (F.keeps k).stand
  have I' := I.stand F q
  refine ⟨G', le, F', I', fun h₀ h'' k₀ k'' => InstF.back ?_ k₀⟩
  obtain ⟨dx, es, n, a, b, c, d, e, f⟩ := I
  exact ⟨dx, es, n, a, b, c, k'' _ _ (q _ _ d (F.fresh (h' := h') a).1 (F.fresh (h' := h') a).2), k'' _ _ (q _ _ e (F.fresh (h' := h') b).1 (F.fresh (h' := h') b).2), f⟩
end
section
variable {prog : Program} {w : World} {s : Shared} {A : Around} {h : Heap} {env : Env}
variable {G : PH} {L : Addr} {N : List (Addr × Obj)} {l : List (Str × Value)}
variable {K : Frag} {mg mb : Str → Option Value} {g : Obj → List (Addr × Obj)} {o : Obj} {a : Addr}

theorem w_subListNeg {G' : PH} {e i : Expr} {vs : List Value} {j : Int} {t : Tok} {x : Value} {Q : Value → Heap → Prop} (I : LstG G' a vs) (kG : Le G' h.get?) (h0 : j < 0) (h1 : -(vs.length : Int) ≤ j) (hfit : -(2 ^ 63) ≤ j) (hx : vs[(j + vs.length).toNat]? = some x) (k : Q x h)
    (hs : subscripted i false (.ref a) (.int j t) = operate [.ref a, .int j t] (getItem (.ref a) (.int j t)) := by with_unfolding_all rfl) : W prog w s A h (subscriptTail e i (.ref a) (.int j t)) Q :=
  W.mk fun tk => tail_any (I.mono kG).is.typeIs slot_list_getitem.lookup (wpAny_getItem_list_neg (I.mono kG).is h0 (by simpa using h1) hfit (by simpa using hx) ⟨_, _, rfl, k⟩) hs
theorem w_min2 {a b : Int} {t u : Tok} {Q : Value → Heap → Prop} (k : ∀ h', Le h.get? h'.get? → ∀ t, Q (.int (min a b) t) h') (hh : A.handled = none := by walk_at "hh") : W prog w s A h (call (.builtin "min") [.int a t, .int b u]) Q :=
  W.mk fun tk => min_two_ints hh fun h' tk' le => ⟨_, _, rfl, by
    by_cases q : b < a
    · rw [if_pos q]; have := k h' le u; rwa [Int.min_eq_right (Int.le_of_lt q)] at this
    · rw [if_neg q]; have := k h' le t; rwa [Int.min_eq_left (Int.not_lt.mp q)] at this⟩
/-- the least of a list -/
noncomputable def isMin (m : Int) (ns : List Int) : Prop := m ∈ ns ∧ ∀ a ∈ ns, m ≤ a
theorem isMin.one {m m' : Int} {ns : List Int} (x : isMin m ns) (y : isMin m' ns) : m = m' := Int.le_antisymm (x.2 _ y.1) (y.2 _ x.1)
theorem w_minList {G' : PH} {vs : List Value} {ns : List Int} {Q : Value → Heap → Prop} (hh : A.handled = none) (I : LstG G' a vs) (kG : Le G' h.get?) (hi : IntsAre vs ns) (hne : 0 < ns.length)
    (k : ∀ h', Le h.get? h'.get? → ∀ m t, isMin m ns → Q (.int m t) h') : W prog w s A h (call (.builtin "min") [.ref a]) Q := W.mk fun tk => by
  obtain ⟨xs, e⟩ := hi.allInts.items
  have hns : ns = xs.toList.map (·.1) := by rw [← hi.numsOf, ← nums_intItems, ← e]
  have hsz : 0 < xs.size := by
    have h3 := hne; rw [hns, List.length_map, Array.length_toList] at h3; exact h3
  have hl := (I.mono kG).is
  rw [e] at hl
  refine min_intList hh hl hsz fun v h' tk' hv hk => ?_
  obtain ⟨t, rfl⟩ := intItems_at hv
  obtain ⟨h1, h2⟩ := argBest_lt (numAt xs) (xs.size - 1)
  refine ⟨_, _, rfl, k h' hk _ t ⟨?_, fun a ha => ?_⟩⟩
  · rw [hns, numAt_eq]; exact getD_mem (by rw [List.length_map, Array.length_toList]; omega)
  · rw [hns] at ha
    obtain ⟨j, hj, rfl⟩ := mem_getD ha
    rw [List.length_map, Array.length_toList] at hj
    rw [← numAt_eq]; exact h2 j (by omega)
end
section
variable {prog : Program} {w : World} {s : Shared} {A : Around} {h : Heap} {env : Env}
variable {G : PH} {L : Addr} {N : List (Addr × Obj)} {l : List (Str × Value)}
variable {K : Frag} {mg mb : Str → Option Value} {g : Obj → List (Addr × Obj)} {o : Obj} {a : Addr}

/-- a plain list object -/
noncomputable def PL (o : Obj) (vs : List Value) : Prop := ∃ n, o = { cls := .type "list", data := .seq vs.toArray n }
theorem PL.lo {o : Obj} {vs : List Value} (D : PL o vs) : LO o vs := by obtain ⟨n, rfl⟩ := D; exact ⟨rfl, n, rfl⟩
theorem PL.lst {G : PH} {a : Addr} {o : Obj} {vs : List Value} (D : PL o vs) (e : G a = some o) : LstG G a vs := D.lo.lst e
theorem PL.new {vs : List Value} {n : Nat} : PL { cls := .type "list", data := .seq vs.toArray n } vs := ⟨n, rfl⟩
theorem PL.dict {o : Obj} {vs : List Value} (D : PL o vs) : o.dict = none := by obtain ⟨n, rfl⟩ := D; rfl
/-- an iterator at its start -/
noncomputable def Src (prog : Program) (w : World) (A : Around) (it : Value) (h : Heap) (G : PH) (L : Addr) (N : List (Addr × Obj)) (l : List (Str × Value)) (n : Nat) (P : Nat → Value → Prop) : Prop :=
  ∃ I io fp St, it = .ref I ∧ Walks prog w A I fp [I] n P St ∧ (∀ i h, St i h → ∃ o, h.get? I = some o) ∧ (∀ b ∈ fp, b = I ∨ ∃ o, G b = some o) ∧ Fm G L ((I, io) :: N) h l ∧ St 0 h
theorem src_list {vs : List Value} (hh : A.handled = none) (I : LstG G a vs) (F : Fm G L N h l) : W prog w s A h (pyIter (.ref a)) (fun it h₂ => Le h.get? h₂.get? ∧ Src prog w A it h₂ G L N l vs.length (fun i v => vs[i]? = some v)) := by
  have Ih := I.mono F.keep
  have ne : a ≠ h.objs.size := fun e => by
    obtain ⟨o, ho, _⟩ := Ih
    rw [e, Heap.get?_size_none] at ho; cases ho
  have Wk := Walks.list (prog := prog) (w := w) hh h.objs.size a ne vs.toArray
  simp only [List.size_toArray, List.getElem?_toArray] at Wk
  refine W.mk fun tk => wpAny_pyIter_list Ih.is ⟨_, _, rfl, fun _ _ e => Heap.get?_push_of_some _ e, h.objs.size, _, [h.objs.size, a], fun i h' => h'.IsListIter h.objs.size a i ∧ h'.IsList a vs.toArray, rfl,
    Wk, fun i h st => let ⟨o, e, _⟩ := st.1; ⟨o, e⟩, fun b hb => ?_, F.alloc _, ⟨⟨_, Heap.get?_push_size _ rfl, rfl, rfl⟩, (I.mono (F.push _).keep).is⟩⟩
  rcases List.mem_cons.mp hb with e | hb
  · exact .inl e
  · rw [List.mem_singleton.mp hb]
    obtain ⟨o, ho, _⟩ := I
    exact .inr ⟨o, ho⟩
theorem src_range {r : Addr} {x y c : Int} {n : Nat} (hh : A.handled = none) (hr : RngG h r x y c) (sm : Builtin.Range.small x y c = true) (hn : Builtin.Range.rangeSize x y c = ((n : Nat) : Int)) (F : Fm G L N h l) :
    W prog w s A h (pyIter (.ref r)) (fun it h₂ => Le h.get? h₂.get? ∧ Src prog w A it h₂ G L N l n (fun i v => ∃ t, v = .int (x + i * c) t)) := by
  obtain ⟨t, u, v, hr⟩ := hr
  exact W.mk fun tk => wpAny_pyIter_range hr sm ⟨_, _, rfl, fun _ _ e => Heap.get?_push_of_some _ e, h.objs.size, _, [h.objs.size], _, rfl, Walks.range hh _ x c n, fun i h st => ⟨_, st⟩, fun b hb => .inl (List.mem_singleton.mp hb), F.alloc _,
    (by show IsRangeIter _ _ _ _ _; rw [hn]; simpa using Heap.get?_push_size _ rfl)⟩

/-- a comprehension's turns -/
noncomputable def CTurns (prog : Program) (w : World) (s : Shared) (A : Around) (env : Env) (scope : Scope) (cl : List (Str × Addr)) (x : Str) (elt : Expr) (n : Nat) (P : Nat → Value → Prop) (G : PH)
    (J : Nat → PH → List (Addr × Obj) → List Value → Prop) : Prop :=
  ∀ i v G' C H N' ys h', i < n → P i v → Le G G' → Fm G' C (H ++ N') h' [(x, v)] → J i G' N' ys →
    W prog w s A h' (eval elt (compEnvC scope cl C env)) (fun y h₃ => ∃ N'' l'', Fm G' C (H ++ N'') h₃ l'' ∧ J (i + 1) (offAll (C :: (H ++ N'').map (·.1)) h₃) N'' (ys ++ [y]))

theorem comp_core {elt iter : Expr} {x : Str} {px : Pos} {scope : Scope} {cl : List (Str × Addr)} {pos : Pos} {it : Value} {n : Nat} {P : Nat → Value → Prop} {J : Nat → PH → List (Addr × Obj) → List Value → Prop}
    (hcell : ∀ y ∈ scope.names, y.2 ≠ .cell) (hkind : scope.kind = .function) (hx : scope.names.lookup x = some .local) (X : Src prog w A it h G L N l n P) (hsz : n ≤ sizeLine) (hJ : J 0 G N [])
    (turn : CTurns prog w s A env scope cl x elt n P G J) {RR : Value → Addr → Result → Shared → Prop} {E : Value → Shared → Prop}
    (fin : ∀ G' C D o oL N' ys h' tk l', Le G G' → Fm G' C ((D, o) :: (L, oL) :: N') h' l' → h.get? L = some oL → PL o ys → ys.length = n → J n G' N' ys → RR (.ref D) C (.ok .next) { s with heap := h', toks := tk }) (tk : Nat) :
    wpAny (model prog w) A (newList []) (fun acc s₃ => wpAny (model prog w) A (newFunctionEnv scope env.globals cl [] env.qual none .none (some env)) (fun cenv s₄ =>
      codeAny (model prog w) A (.compStart (.ListComp elt [⟨.Name x px, iter, [], 0⟩] scope pos) 0 it acc { cenv with scope := relabel scope env }) (RR acc cenv.locals) s₄) E s₃) E { s with heap := h, toks := tk } := by
  obtain ⟨I, io, fp, St, rfl, Wk, alive, hfp, F, hst⟩ := X
  obtain ⟨oL, eL⟩ : ∃ oL, h.get? L = some oL := let ⟨_, ⟨o, _, _, e, _⟩, _⟩ := F.ns; ⟨o, e⟩
  refine wpAny_newObj_type (wpAny_newFunctionEnv hcell (by intro y hy; simp at hy) (fun h₁ hns₁ hsb₁ => ?_) hkind)
  dsimp only at hns₁ hsb₁ ⊢
  generalize hH2 : h.push { cls := .type "list", dict := none, data := .seq ([] : List Value).toArray } = H2 at hns₁ hsb₁ ⊢
  have hC : H2.objs.size = h.objs.size + 1 := by rw [← hH2, Heap.size_push]
  have hDC : h.objs.size ≠ H2.objs.size := by rw [hC]; exact Nat.ne_of_lt (Nat.lt_succ_self _)
  have nD : h.get? h.objs.size = none := Heap.get?_size_none h
  have nC : h.get? H2.objs.size = none := by
    cases e : h.get? H2.objs.size with
    | none => rfl
    | some o' => exact absurd (Heap.lt_size e) (by rw [hC]; exact Nat.not_lt.mpr (Nat.le_succ _))
  have old : Le h.get? h₁.get? := fun b o e => hsb₁.extBut b o (fun q => by rw [q, nC] at e; cases e) (Heap.get?_push_of_some _ (hH2 ▸ Heap.get?_push_of_some _ e))
  have eD : h₁.get? h.objs.size = some { cls := .type "list", dict := none, data := .seq ([] : List Value).toArray } := hsb₁.extBut _ _ hDC (Heap.get?_push_of_some _ (hH2 ▸ Heap.get?_push_size _ rfl))
  have gn : ∀ b, h.get? b = none → G b = none := fun b e => by
    cases q : G b with
    | none => rfl
    | some o' => rw [F.keep _ _ q] at e; cases e
  have F₁ : Fm G H2.objs.size ((I, io) :: (h.objs.size, { cls := .type "list", dict := none, data := .seq ([] : List Value).toArray }) :: (L, oL) :: N) h₁ [] := by
    refine ⟨⟨_, hns₁, fun y v e => by cases e⟩, F.keep.trans old, gn _ nC, fun p hp => ?_, ?_⟩
    · rcases List.mem_cons.mp hp with rfl | hp
      · have z := F.nw _ (.head _)
        exact ⟨old _ _ z.1, z.2.1, fun q => by rw [← q, z.1] at nC; cases nC⟩
      rcases List.mem_cons.mp hp with rfl | hp
      · exact ⟨eD, gn _ nD, hDC⟩
      rcases List.mem_cons.mp hp with rfl | hp
      · exact ⟨old _ _ eL, F.off, fun q => by rw [← q, eL] at nC; cases nC⟩
      · have z := F.nw _ (.tail _ hp)
        exact ⟨old _ _ z.1, z.2.1, fun q => by rw [← q, z.1] at nC; cases nC⟩
    · have nd := F.nd
      rw [List.map_cons, List.nodup_cons] at nd
      have zI := F.nw _ (.head _)
      rw [List.map_cons, List.map_cons, List.map_cons, List.nodup_cons, List.nodup_cons, List.nodup_cons]
      refine ⟨fun q => ?_, fun q => ?_, fun q => ?_, nd.2⟩
      · rcases List.mem_cons.mp q with q | q
        · dsimp only at q; rw [q, nD] at zI; cases zI.1
        rcases List.mem_cons.mp q with q | q
        · exact zI.2.2 q
        · exact nd.1 q
      · rcases List.mem_cons.mp q with q | q
        · dsimp only at q; rw [← q, nD] at eL; cases eL
        · obtain ⟨p, hp, e⟩ := List.mem_map.mp q
          have z := (F.nw _ (.tail _ hp)).1
          rw [e, nD] at z; cases z
      · obtain ⟨p, hp, e⟩ := List.mem_map.mp q
        exact (F.nw _ (.tail _ hp)).2.2 e
  have hst₁ : St 0 h₁ := Wk.frame _ _ _ hst fun b _ o e => old b o e
  have loop : ∀ s₃ : Shared, s₃ = { s with heap := h₁, toks := tk + ([] : List (Str × Value)).length } →
      codeAny (model prog w) A (.compLoop (.ListComp elt [⟨.Name x px, iter, [], 0⟩] scope pos) 0 (.ref I) (.ref h.objs.size) (compEnvC scope cl H2.objs.size env))
        (RR (.ref h.objs.size) H2.objs.size) s₃ := by
    rintro s₃ rfl
    refine codeAny_compLoop_list (fun m s' => ∃ i G' N' ys h' tk' io' oD lc, s' = { s with heap := h', toks := tk' } ∧ i ≤ n ∧ m = n - i ∧ Le G G' ∧
      Fm G' H2.objs.size ((I, io') :: (h.objs.size, oD) :: (L, oL) :: N') h' lc ∧ PL oD ys ∧ ys.length = i ∧ St i h' ∧ J i G' N' ys) ?_ n
      ⟨0, G, N, [], h₁, _, io, _, [], rfl, Nat.zero_le _, rfl, Le.refl _, F₁, PL.new, rfl, hst₁, hJ⟩
    rintro m s' ⟨i, G', N', ys, h', tk', io', oD, lc, rfl, hi, rfl, hG, F', DD, hlen, hst', hJ'⟩
    rcases Nat.lt_or_ge i n with hlt | hge
    · refine Wk.item i _ _ _ hlt hst' fun v h₂ tk₂ hP hst₂ kp => ?_
      obtain ⟨io₁, e₁⟩ := alive _ _ hst₂
      have F₂ : Fm G' H2.objs.size ((I, io₁) :: (h.objs.size, oD) :: (L, oL) :: N') h₂ lc := F'.set .head (fun b x hb e => kp b x (by simpa using hb) e) e₁
      have st : W prog w s A h₂ (assign (.Name x px) (compEnvC scope cl H2.objs.size env) v) (fun _ h₃ => Fm G' H2.objs.size ((I, io₁) :: (h.objs.size, oD) :: (L, oL) :: N') h₃ [(x, v)]) :=
        w_asgName (w_store F₂ (fun h₃ F₃ => F₃.to [(x, v)] ⟨by unfold al; rw [List.lookup_cons, beq_self_eq_true], trivial⟩) rfl (by show scope.kind = _; exact hkind) (lookup_relabel_local hx))
      refine wpAny_mono (st.out tk₂) (fun _ s₃ q => ?_) fun _ _ e => e.elim
      obtain ⟨h₃, tk₃, rfl, F₃⟩ := q
      refine wpAny_mono ((turn i v G' H2.objs.size [(I, io₁), (h.objs.size, oD), (L, oL)] N' ys h₃ hlt hP hG F₃ hJ').out tk₃) (fun y s₄ q => ?_) fun _ _ e => e.elim
      obtain ⟨h₄, tk₄, rfl, N'', l'', F₄, hJ₄⟩ := q
      have ap : W prog w s A h₄ (call (.builtin "list.append") [.ref h.objs.size, y]) (fun _ h₅ => ∃ oD', PL oD' (ys ++ [y]) ∧ Fm G' H2.objs.size ((I, io₁) :: (h.objs.size, oD') :: (L, oL) :: N'') h₅ l'' ∧ ∀ b o, b ≠ h.objs.size → h₄.get? b = some o → h₅.get? b = some o) := by
        refine W.mk fun tk => ?_
        have U : AtF h.objs.size oD ((I, io₁) :: (h.objs.size, oD) :: (L, oL) :: N'') (fun o' => (I, io₁) :: (h.objs.size, o') :: (L, oL) :: N'') := .tail .head
        obtain ⟨nd, rfl⟩ := DD
        refine wpAny_list_append_plain (items := ys.toArray) ⟨nd, F₄.get U.mem⟩ (fun h' hl hs => ?_) (by simp; omega)
        obtain ⟨nn, e'⟩ := hl
        exact ⟨_, _, rfl, _, ⟨nn, by simp⟩, F₄.set (U.at _) (SameBut.ext hs) e', SameBut.ext hs⟩
      refine wpAny_mono (ap.out tk₄) (fun _ s₅ q => ?_) fun _ _ e => e.elim
      obtain ⟨h₅, tk₅, rfl, oD', DD', F₅, kp₅⟩ := q
      obtain ⟨r1, r2⟩ := F₄.rebase
      have off : offAll (H2.objs.size :: ([(I, io₁), (h.objs.size, oD), (L, oL)] ++ N'').map (·.1)) h₄ h.objs.size = none := offAll_in (.tail _ (.tail _ (.head _)))
      have F₆ : Fm (offAll (H2.objs.size :: ([(I, io₁), (h.objs.size, oD), (L, oL)] ++ N'').map (·.1)) h₄) H2.objs.size ((I, io₁) :: (h.objs.size, oD') :: (L, oL) :: N'') h₅ l'' := by
        refine ⟨F₅.ns, fun b o e => kp₅ b o (fun q => by rw [q, off] at e; cases e) (offAll_le b o e), offAll_in (.head _), fun p hp => ⟨(F₅.nw p hp).1, ?_, (F₅.nw p hp).2.2⟩, F₅.nd⟩
        refine offAll_in (.tail _ ?_)
        have : p.1 ∈ ((I, io₁) :: (h.objs.size, oD') :: (L, oL) :: N'').map (·.1) := List.mem_map.mpr ⟨p, hp, rfl⟩
        exact this
      refine ⟨n - (i + 1), by omega, i + 1, _, N'', ys ++ [y], h₅, tk₅, io₁, oD', l'', rfl, hlt, rfl, hG.trans r1, F₆, DD', by simp [hlen], ?_, hJ₄⟩
      refine Wk.frame _ _ _ hst₂ (fun b hb o e => ?_)
      rcases hfp b hb with rfl | ⟨o', e'⟩
      · have z1 := F₂.get (a := b) (o := io₁) (.head _)
        have z2 := F₅.get (a := b) (o := io₁) (.head _)
        rw [z1] at e; rw [z2]; exact e
      · have z1 := hG _ _ e'
        have z2 := F₂.keep _ _ z1
        rw [z2] at e; cases e
        exact F₅.keep _ _ z1
    · have hin : i = n := Nat.le_antisymm hi hge
      subst hin
      refine Wk.done _ _ _ hst' fun h₂ tk₂ kp => ?_
      have F₀ : Fm G' H2.objs.size ((h.objs.size, oD) :: (L, oL) :: N') h' lc := F'.drop
      have In : ∀ p ∈ (h.objs.size, oD) :: (L, oL) :: N', p.1 ≠ I := fun p hp e => by
        have := F'.nd
        rw [List.map_cons, List.nodup_cons] at this
        exact this.1 (List.mem_map.mpr ⟨p, hp, e⟩)
      refine fin G' H2.objs.size h.objs.size oD oL N' ys h₂ tk₂ lc hG ⟨F'.ns.at' fun o e => kp _ _ (by simpa using Ne.symm (F'.addr_ne (.head _))) e, fun b o e => kp b o (fun hb => ?_) (F'.keep b o e), F'.off, fun p hp => ⟨kp _ _ (by simpa using In p hp) (F₀.nw p hp).1, (F₀.nw p hp).2⟩, F₀.nd⟩ eL DD hlen hJ'
      have := (F'.nw _ (.head _)).2.1
      rw [List.mem_singleton] at hb
      rw [← hb, e] at this; cases this
  exact codeAny_compStart_list (loop _ rfl) (Wk.self 0 _ _ _ hst₁ (loop _ rfl))
/-- a comprehension for a value -/
theorem w_comp {elt iter : Expr} {x : Str} {px : Pos} {scope : Scope} {cl : List (Str × Addr)} {pos : Pos} {Q : Value → Heap → Prop}
    (hclos : closureFor scope env = pure cl) (hcell : ∀ y ∈ scope.names, y.2 ≠ .cell) (hkind : scope.kind = .function) (hnames : ∀ y ∈ scope.names, y.2 = .local → scope.names.lookup y.1 = some .local) (hx : scope.names.lookup x = some .local)
    (k : W prog w s A h (eval iter env) (fun xv h₁ => W prog w s A h₁ (pyIter xv) (fun it h₂ => ∃ G L N l n P, ∃ J : Nat → PH → List (Addr × Obj) → List Value → Prop, Src prog w A it h₂ G L N l n P ∧ n ≤ sizeLine ∧ J 0 G N [] ∧ CTurns prog w s A env scope cl x elt n P G J ∧
      (∀ G' D o N' ys h', Le G G' → Fm G' L ((D, o) :: N') h' l → PL o ys → ys.length = n → J n G' N' ys → Q (.ref D) h'))))
    (hs : ∀ x, foldedSetIterable iter env x = pure x := by intro _; rfl) : W prog w s A h (eval (.ListComp elt [⟨.Name x px, iter, [], 0⟩] scope pos) env) Q := W.mk fun tk => by
  rw [eval_ListComp]
  refine wpAny_comprehension_free (use := none) rfl hs hclos hkind hnames (k.via tk fun xv h₁ tk₁ q => q.via tk₁ fun it h₂ tk₂ q => ?_)
  obtain ⟨G, L, N, l, n, P, J, X, hsz, hJ, turn, done⟩ := q
  refine comp_core hcell hkind hx X hsz hJ turn (RR := fun acc C => compPost (model prog w) A EE none (QQ s Q) acc C) (fun G' C D o oL N' ys h' tk l' hG F eL DD hlen hJ' => ?_) tk₂
  obtain ⟨I, io, fp, St, rfl, Wk, alive, hfp, F₀, hst⟩ := X
  obtain ⟨m, ns, _⟩ := F.ns
  refine ⟨m, ns, fun h'' hs'' => ⟨h'', tk, rfl, done G' D o N' ys h'' hG ⟨F₀.ns.at' fun o' e' => ?_, fun b x e => ?_, (F.nw _ (.tail _ (.head _))).2.1, fun p hp => ?_, ?_⟩ DD hlen hJ'⟩⟩
  · rw [eL] at e'; cases e'
    exact (hs''.2 _ (F.nw _ (.tail _ (.head _))).2.2).trans (F.nw _ (.tail _ (.head _))).1
  · exact (hs''.2 b (fun q => by have := F.off; rw [← q, e] at this; cases this)).trans (F.keep b x e)
  · have nd := F.nd
    rw [List.map_cons, List.map_cons, List.nodup_cons, List.nodup_cons] at nd
    rcases List.mem_cons.mp hp with rfl | hp
    · have z := F.nw _ (.head _)
      exact ⟨(hs''.2 _ z.2.2).trans z.1, z.2.1, fun q => nd.1 (by dsimp only at q; rw [q]; exact .head _)⟩
    · have z := F.nw _ (.tail _ (.tail _ hp))
      exact ⟨(hs''.2 _ z.2.2).trans z.1, z.2.1, fun q => nd.2.1 (q ▸ List.mem_map.mpr ⟨p, hp, rfl⟩)⟩
  · have nd := F.nd
    rw [List.map_cons, List.map_cons, List.nodup_cons, List.nodup_cons] at nd
    rw [List.map_cons, List.nodup_cons]
    exact ⟨fun q => nd.1 (.tail _ q), nd.2.2⟩
end
section
variable {prog : Program} {w : World} {s : Shared} {A : Around} {h : Heap} {env : Env}
variable {G : PH} {L : Addr} {N : List (Addr × Obj)} {l : List (Str × Value)}
variable {K : Frag} {mg mb : Str → Option Value} {g : Obj → List (Addr × Obj)} {o : Obj} {a : Addr}

theorem w_slice {value : Expr} {lower upper : Option Expr} {p pos : Pos} {Q : Value → Heap → Prop}
    (k : W prog w s A h (eval value env) (fun o h₁ => W prog w s A h₁ (evalPart lower env) (fun vl h₂ => W prog w s A h₂ (evalPart upper env) (fun vu h₃ => ∃ a vs lo hi G' G L N l, o = .ref a ∧ LstG G' a vs ∧ Le G' h₃.get? ∧ Fm G L N h₃ l ∧ vs.length ≤ sizeLine ∧ IsPart vl lo ∧ IsPart vu hi ∧
      ∀ b o h', Fm G L ((b, o) :: N) h' l → Le h₃.get? h'.get? → LO o ((vs.drop (lo.elim 0 (clipAt vs.length))).take (hi.elim vs.length (clipAt vs.length) - lo.elim 0 (clipAt vs.length))) → Q (.ref b) h')))) :
    W prog w s A h (eval (.Subscript value (.Slice lower upper none p) pos) env) Q := W.mk fun tk => by
  refine Subscript_ (k.via tk fun o h₁ tk₁ q => wpAny_Slice (q.via tk₁ fun vl h₂ tk₂ q => q.via tk₂ fun vu h₃ tk₃ q => wpAny_pure ?_))
  obtain ⟨a, vs, lo, hi, G', G, L, N, l, rfl, I, kG, F, hsz, pl, pu, fin⟩ := q
  have Il := (I.mono kG).is
  refine tail_any (Il.push _).typeIs slot_list_getitem.lookup (wpAny_getItem_list_slice (Il.push _) (Heap.IsSliceOf.new ..) pl pu .none (by simp) ?_ (by simpa using hsz)) rfl
  refine ⟨_, _, rfl, ?_⟩
  have F' := (F.push { cls := .type "slice", data := .fields #[vl, vu, .none] }).alloc { cls := .type "list", data := .seq (slicePick vs.toArray lo hi none) }
  refine fin _ _ _ F' (fun _ _ e => Heap.get?_push_of_some _ (Heap.get?_push_of_some _ e)) ⟨rfl, 0, ?_⟩
  rw [slicePick_plain]
  simp only [List.size_toArray]
theorem w_part {e : Expr} {Q : Value → Heap → Prop} (k : W prog w s A h (eval e env) Q) : W prog w s A h (evalPart (some e) env) Q := k
theorem w_part0 {Q : Value → Heap → Prop} (k : Q .none h) : W prog w s A h (evalPart none env) Q := W.mk fun _ => wpAny_pure ⟨_, _, rfl, k⟩
theorem w_exprS {e : Expr} {pos : Pos} {rest : List Stmt} {Q : Flow → Heap → Prop} (k : W prog w s A h (eval e env) (K0 prog w s A (execs rest env) Q)) (hi : interactive env = false := by with_unfolding_all exact rfl) (hs : swapsWith e none pos.line env = pure false := by with_unfolding_all exact rfl) :
    W prog w s A h (execs (.Expr e pos :: rest) env) Q := w_then <| W.mk fun tk => wpAny_Expr_any (k.via tk fun _ _ _ q => ⟨_, _, rfl, rfl, q⟩) hi hs
/-- tuple(list) -/
theorem w_tupleOf {G' : PH} {vs : List Value} {Q : Value → Heap → Prop} (F : Fm G L N h l) (I : LstG G' a vs) (kG : Le G' h.get?) (hsz : vs.length ≤ sizeLine)
    (k : ∀ b h', Fm G L ((b, { cls := .type "tuple", data := .seq vs.toArray }) :: N) h' l → Le h.get? h'.get? → h.get? b = none → Q (.ref b) h') : W prog w s A h (call (.type "tuple") [.ref a]) Q := W.mk fun tk => by
  refine call_tuple_list (I.mono kG).is (fun h' hk => ?_) (by simpa using hsz)
  refine ⟨_, _, rfl, k _ _ ((F.keeps hk).alloc _) (fun b o e => Heap.get?_push_of_some _ (hk b o e)) ?_⟩
  cases q : h.get? h'.objs.size with
  | none => rfl
  | some o => have := hk _ _ q; rw [Heap.get?_size_none] at this; cases this
/-- tuple + tuple -/
theorem w_addTup {a b : Addr} {vs us : List Value} {Q : Value → Heap → Prop} (F : Fm G L N h l) (ha : h.get? a = some { cls := .type "tuple", data := .seq vs.toArray }) (hb : h.get? b = some { cls := .type "tuple", data := .seq us.toArray })
    (h1 : vs ≠ []) (h2 : us ≠ []) (hsz : vs.length + us.length ≤ sizeLine)
    (k : ∀ c h', Fm G L ((c, { cls := .type "tuple", data := .seq (vs ++ us).toArray }) :: N) h' l → Le h.get? h'.get? → h.get? c = none → Q (.ref c) h') : W prog w s A h (binaryOp .Add (.ref a) (.ref b)) Q := W.mk fun tk => by
  refine PySem.P.add_tuple (n := 0) (n2 := 0) ha hb (by simpa using h1) (by simpa using h2) ?_ (by simpa using hsz)
  exact ⟨_, _, rfl, k _ _ (by simpa using F.alloc { cls := .type "tuple", data := .seq (vs ++ us).toArray }) (fun b o e => Heap.get?_push_of_some _ e) (Heap.get?_size_none h)⟩
end
/-- entries by their place -/
theorem AtF.idx {ns : List (Addr × Obj)} {i : Nat} {d : Addr} {o : Obj} (e : ns[i]? = some (d, o)) : AtF d o ns (fun o' => ns.set i (d, o')) := by
  induction ns generalizing i with
  | nil => simp at e
  | cons p r ih =>
    cases i with
    | zero => simp at e; subst e; exact .head
    | succ i => exact .tail (ih (by simpa using e))
section
variable {h h' : Heap} {G : PH} {L : Addr} {N ns ns' H : List (Addr × Obj)} {l : List (Str × Value)} {b : Addr} {o : Obj}
/-- the newest entry stands from here on -/
theorem Fm.settle (F : Fm G L ((b, o) :: N) h l) : ∃ G', Le G G' ∧ Fm G' L N h l ∧ G' b = some o := by
  obtain ⟨G', le, F', q⟩ := F.drop.stand
  have z := F.nw _ (.head _)
  refine ⟨G', le, F', q b o z.1 z.2.2 fun p hp e => ?_⟩
  have nd := F.nd
  rw [List.map_cons, List.nodup_cons] at nd
  exact nd.1 (List.mem_map.mpr ⟨p, hp, e⟩)
/-- a call has turned a part of the ledger -/
theorem Fm.turn (F : Fm G L (H ++ ns) h l) (le : Le (offAll (ns.map (·.1)) h) h'.get?) (e : ∀ p ∈ ns', h'.get? p.1 = some p.2) (ea : ns'.map (·.1) = ns.map (·.1)) : Fm G L (H ++ ns') h' l := by
  have nm : ∀ b, b ∉ ns.map (·.1) → ∀ o, h.get? b = some o → h'.get? b = some o := fun b hb o q => le b o (by rw [offAll_out hb]; exact q)
  have adr : ∀ p ∈ ns', ∃ q ∈ ns, q.1 = p.1 := fun p hp => by
    have : p.1 ∈ ns.map (·.1) := ea ▸ List.mem_map.mpr ⟨p, hp, rfl⟩
    obtain ⟨q, hq, e⟩ := List.mem_map.mp this
    exact ⟨q, hq, e⟩
  have nd := F.nd
  rw [List.map_append, List.nodup_append] at nd
  refine ⟨F.ns.at' (nm L fun q => ?_), fun b o q => nm b (fun z => ?_) o (F.keep b o q), F.off, fun p hp => ?_, ?_⟩
  · obtain ⟨p, hp, e⟩ := List.mem_map.mp q
    exact (F.nw p (List.mem_append.mpr (.inr hp))).2.2 e
  · obtain ⟨p, hp, e⟩ := List.mem_map.mp z
    have := (F.nw p (List.mem_append.mpr (.inr hp))).2.1
    rw [e, q] at this; cases this
  · rcases List.mem_append.mp hp with hp | hp
    · have z := F.nw p (List.mem_append.mpr (.inl hp))
      exact ⟨nm _ (fun q => nd.2.2 p.1 (List.mem_map.mpr ⟨p, hp, rfl⟩) p.1 q rfl) _ z.1, z.2⟩
    · obtain ⟨q, hq, eq⟩ := adr p hp
      have z := F.nw q (List.mem_append.mpr (.inr hq))
      rw [eq] at z
      exact ⟨e p hp, z.2⟩
  · rw [List.map_append, ea, ← List.map_append]; exact F.nd
end
section
variable {prog : Program} {w : World} {s : Shared} {A : Around} {h h' : Heap} {env : Env}
variable {G G' : PH} {L L' : Addr} {N N' : List (Addr × Obj)} {l l' : List (Str × Value)}
variable {K : Frag} {mg mb : Str → Option Value} {g : Obj → List (Addr × Obj)} {o oL : Obj} {a : Addr}

/-- a call in the caller's own frame: the frame goes with the ledger -/
theorem Fm.lend (F : Fm G L N h l) : ∃ oL, (∀ p ∈ (L, oL) :: N, h.get? p.1 = some p.2 ∧ G p.1 = none) ∧ (((L, oL) :: N).map (·.1)).Nodup ∧ ∀ G' L' N' h' l', Le G G' → Fm G' L' ((L, oL) :: N') h' l' → Fm G' L N' h' l := by
  obtain ⟨m, ⟨oL, es, ep, e, r⟩, kn⟩ := F.ns
  refine ⟨oL, fun p hp => ?_, ?_, fun G' L' N' h' l' hG F' => ?_⟩
  · rcases List.mem_cons.mp hp with rfl | hp
    · exact ⟨e, F.off⟩
    · exact ⟨(F.nw p hp).1, (F.nw p hp).2.1⟩
  · rw [List.map_cons, List.nodup_cons]
    refine ⟨fun q => ?_, F.nd⟩
    obtain ⟨p, hp, e⟩ := List.mem_map.mp q
    exact (F.nw p hp).2.2 e
  · have z := F'.nw _ (.head _)
    have nd := F'.nd
    rw [List.map_cons, List.nodup_cons] at nd
    exact ⟨⟨m, ⟨oL, es, ep, z.1, r⟩, kn⟩, F'.keep, z.2.1, fun p hp => ⟨(F'.nw p (.tail _ hp)).1, (F'.nw p (.tail _ hp)).2.1, fun q => nd.1 (List.mem_map.mpr ⟨p, hp, q⟩)⟩, nd.2⟩
/-- reading a ledger's list -/
theorem w_subLed {e i : Expr} {vs : List Value} {j : Int} {t : Tok} {x : Value} {Q : Value → Heap → Prop} (F : Fm G L N h l) (U : AtF a o N g) (D : LO o vs) (h0 : 0 ≤ j) (hhi : j < 2 ^ 63) (hx : vs[j.toNat]? = some x) (k : Q x h)
    (hs : subscripted i false (.ref a) (.int j t) = operate [.ref a, .int j t] (getItem (.ref a) (.int j t)) := by with_unfolding_all rfl) : W prog w s A h (subscriptTail e i (.ref a) (.int j t)) Q := w_subList (D.lst (F.get U.mem)) (Le.refl _) h0 hhi hx k hs
theorem w_subLedC {e i : Expr} {vs : List Value} {j : Int} {t : Tok} {x : Value} {Q : Value → Heap → Prop} (k : Q x h) (F : Fm G L N h l := by walk_at "as") (U : AtF a o N g := by walk_at "atf") (D : LO o vs := by walk_at "as") (h0 : 0 ≤ j := by decide) (hhi : j < 2 ^ 63 := by decide) (hx : vs[j.toNat]? = some x := by exact rfl)
    (hs : subscripted i false (.ref a) (.int j t) = operate [.ref a, .int j t] (getItem (.ref a) (.int j t)) := by with_unfolding_all rfl) : W prog w s A h (subscriptTail e i (.ref a) (.int j t)) Q := w_subLed F U D h0 hhi hx k hs
/-- cells -/
noncomputable def CellG (G : PH) (c : Addr) (v : Value) : Prop := ∃ o, G c = some o ∧ o.data = .cell (some v)
theorem CellG.mono {c : Addr} {v : Value} (I : CellG G c v) (k : Le G G') : CellG G' c v := let ⟨o, e, d⟩ := I; ⟨o, k _ _ e, d⟩
theorem w_cell {x : Str} {pos : Pos} {c : Addr} {v : Value} {Q : Value → Heap → Prop} (k : Q v h) (hc : env.cells.lookup x = some c := by exact rfl) (I : CellG G c v := by walk_at "as") (kG : Le G h.get? := by walk_at "le") (hk : env.scope.kind = .function := by exact rfl) (hl : env.kindOf x = some .cell := by exact rfl) (hd : (x == ("__debug__" : Str)) = false := by decide) :
    W prog w s A h (eval (.Name x pos) env) Q := W.mk fun tk => let ⟨o, e, d⟩ := I; wpAny_Name (wpAny_loadName_cell hk hl hc ⟨o, kG _ _ e, d⟩ ⟨_, _, rfl, k⟩) hd
theorem w_storeCell {x : Str} {c : Addr} {v₀ : Option Value} {v : Value} {Q : Unit → Heap → Prop} (F : Fm G L N h l) (hc : env.cells.lookup x = some c) (U : AtF c o N g) (hd : o.data = .cell v₀)
    (k : ∀ o' h', o'.data = .cell (some v) → Fm G L (g o') h' l → Q () h') (hk : env.scope.kind = .function) (hl : env.kindOf x = some .cell) : W prog w s A h (storeName env x v) Q := W.mk fun tk =>
  wpAny_storeName_cell hk hl hc ⟨o, F.get U.mem, hd⟩ fun h' hv hs => by
    obtain ⟨o', e', d'⟩ := hv
    exact ⟨_, _, rfl, k o' h' d' (F.set (U.at o') (SameBut.ext hs) e')⟩
theorem Fm.drawn {h' : Heap} {o' : Obj} (F : Fm G L N h l) (U : AtF a o N g) (le : Le (offAll [a] h) h'.get?) (e : h'.get? a = some o') : Fm G L (g o') h' l :=
  F.set (U.at o') (fun b x hb q => le b x (by rw [offAll_out (by simpa using hb)]; exact q)) e
theorem AtF.again (u : AtF a o N g) (o' : Obj) : AtF a o' (g o') g := by
  induction u with
  | head => exact .head
  | tail _ ih => exact .tail ih
  | app _ ih => exact .app ih
theorem bits_le {x : Int} (hx : x.natAbs < 2 ^ 64) : Builtin.Int.intBits x ≤ 64 := by
  unfold Builtin.Int.intBits
  split
  · omega
  · rename_i q
    have : x.natAbs ≠ 0 := by intro e; apply q; rw [Int.natAbs_eq_zero.mp e]; rfl
    have := (Nat.log2_lt this).mpr hx
    omega
theorem w_mulR {x y : Int} {t u : Tok} {Q : Value → Heap → Prop} (k : ∀ t, Q (.int (x * y) t) h) (hm : y.natAbs < 2 ^ 64 := by walk_at "om") : W prog w s A h (binaryOp .Mult (.int x t) (.int y u)) Q := w_mul (IntMulOk.of_right (bits_le hm)) k
end
section
variable {prog : Program} {w : World} {s : Shared} {A : Around} {h h' : Heap} {env : Env}
variable {G G' : PH} {L L' : Addr} {N N' : List (Addr × Obj)} {l l' : List (Str × Value)}
variable {K : Frag} {mg mb : Str → Option Value} {g : Obj → List (Addr × Obj)} {o oL : Obj} {a : Addr}
theorem w_appendPM {vs : List Value} {pl : Sem Bool} {Q : Value × List Value → Heap → Prop} (F : Fm G L N h l) (U : AtF a o N g) (D : PL o vs) (k : Q (.builtin "list.append", [.ref a]) h) :
    W prog w s A h (getMethod (.ref a) "append" pl) Q := w_appendM (D.lo.lst (F.get U.mem)) (Le.refl _) (fun o' e => by rw [F.get U.mem] at e; cases e; exact D.dict) k
theorem w_appendP {vs : List Value} {x : Value} {Q : Value → Heap → Prop} (F : Fm G L N h l) (U : AtF a o N g) (D : PL o vs) (hsz : vs.length ≤ sizeLine) (k : ∀ o' h', PL o' (vs ++ [x]) → Fm G L (g o') h' l → Q .none h') :
    W prog w s A h (call (.builtin "list.append") [.ref a, x]) Q := W.mk fun tk => by
  obtain ⟨n, rfl⟩ := D
  refine wpAny_list_append_plain (items := vs.toArray) ⟨n, F.get U.mem⟩ (fun h' hl hs => ?_) (by simpa using hsz)
  obtain ⟨n', e'⟩ := hl
  exact ⟨_, _, rfl, k _ h' ⟨n', by simp⟩ (F.set (U.at _) (SameBut.ext hs) e')⟩
theorem w_tlistL {vs : List Value} {Q : Bool → Heap → Prop} (F : Fm G L N h l) (U : AtF a o N g) (D : PL o vs) (hfit : (vs.length : Int) < 2 ^ 63) (k : Q (!vs.isEmpty) h) : W prog w s A h (truthy (.ref a)) Q :=
  w_tlist k (D.lo.lst (F.get U.mem)) (Le.refl _) hfit
end
section
variable {prog : Program} {w : World} {A : Around} {E : Value → Shared → Prop}
/-- a list has no keys -/
theorem keys_miss {s : Shared} {a : Addr} {xs : Array Value} {k : Nat} {Q : Option Value → Shared → Prop}
    (hx : s.heap.get? a = some { cls := .type "list", data := .seq xs k }) (hA : A.handled = none)
    (h : ∀ h' tk, (∀ b o, s.heap.get? b = some o → h'.get? b = some o) → Q none { s with heap := h', toks := tk }) :
    wpAny (model prog w) A (getAttr? (.ref a) "keys") Q E s := by
  obtain ⟨hp, g, d, tk, os⟩ := s
  have hT : ∀ tk', (⟨hp, g, d, tk', os⟩ : Shared).TypeIs (.ref a) "list" := fun _ => ⟨_, hx, rfl⟩
  have hmiss : typeLookup (.type "list") "keys" = pure none := am_miss_of_fast (by decide +kernel)
  have hname : (["__module__", "__name__", "__qualname__", "__doc__", "__annotations__"] : List Str).contains "keys" = false := by decide +kernel
  have f1 := sub_AttributeError
  have f3 := F.slot_list_getattribute.lookup
  have f4 := F.slot_list_getattribute.bind (.ref a)
  have f5 := am_list_getattr_none
  unfold getAttr? getAttrBy? getAttrBy
  repeat (any_goals (first | assumption | exact hT _ | ((with_reducible show wpAny _ _ (call (Value.builtin "list.__getattribute__") _ _) _ _ _); refine call_meets F.slot_list_getattribute (hT _) am_entry_list_getattribute (F.args_list_getattribute_2 _ _) (meets_getattribute_miss_list a xs k _ _ _ hmiss hname) ⟨hx, hA, fun h' tk' e hx' => ?_⟩) | wp_step))
  have he := hx'.there
  obtain ⟨t', u', he⟩ := he
  have hTe : (⟨h', g, d, tk', os⟩ : Shared).TypeIs (.ref e) "AttributeError" := ⟨_, he, rfl⟩
  show wpAny _ _ (getattributeRaised _ _ _ _ _ _ _) _ _ _
  unfold getattributeRaised
  repeat (any_goals (first | assumption | wp_step))
  exact h _ _ hx'.keeps
/-- a pair of a dict's makings -/
noncomputable def PairV (G : PH) (v : Value) (p : Int × Value) : Prop := ∃ a t, v = .ref a ∧ TupG G a [.int p.1 t, p.2]
theorem plain_update_loop : plainId "dict.update.loop" = true := by decide +kernel
theorem entry_update_loop : entryFor table "dict.update.loop" = some Builtin.«dict.update.loop» := entryFor_of_fast (by kernel_rfl)
theorem update_loop {R : Result → Shared → Prop} {s₀ : Shared} {h₀ : Heap} {I d a : Addr} {vs : List Value} {kvs : List (Int × Value)} (hh : A.handled = none) (n1 : h₀.get? I = none) (n2 : h₀.get? d = none) (nId : I ≠ d) (hL : LstG h₀.get? a vs) (hp : Paired (PairV h₀.get?) vs kvs)
    (nd : (kvs.map (·.1)).Nodup) (hsz : kvs.length ≤ sizeLine) (fin : ∀ h' tk, Le h₀.get? h'.get? → h'.DictOf (intKind prog w) d kvs → R (.ok (.ret .none)) { s₀ with heap := h', toks := tk }) :
    ∀ (m i : Nat) (j : Int) (h : Heap) (tk : Nat), vs.length - i = m → i ≤ vs.length → Le h₀.get? h.get? → h.IsListIter I a i → h.DictOf (intKind prog w) d (kvs.take i) →
      codeAny (model prog w) A (.builtin "dict.update.loop" ⟨[.ref d, .ref I, rawInt j, .none], []⟩) R { s₀ with heap := h, toks := tk } := by
  have ne : a ≠ I := fun e => by
    obtain ⟨o, ho, _⟩ := hL
    rw [e, n1] at ho; cases ho
  have Wk := Walks.list (prog := prog) (w := w) (A := A.in1) hh I a ne vs.toArray
  have hl := hp.length
  intro m
  induction m with
  | zero =>
    intro i j h tk hm hi le it D
    have hin : i = vs.toArray.size := by simp; omega
    subst hin
    refine codeAny_builtin entry_update_loop ?_
    rw [Around.under_plainId plain_update_loop _]
    show wpAny _ A.in1 (pyNext (.ref I) >>= _) _ _ _
    refine wpAny_bind (Wk.done _ _ _ ⟨it, (hL.mono le).is⟩ fun h' tk' kp => ?_)
    show wpAny _ _ (Builtin.Dict.addKeywords d [] >>= _) _ _ _
    refine wpAny_bind (wpAny_pure ?_)
    refine wpAny_pure (fin h' tk' ?_ ?_)
    · exact fun b o e => kp b o (by rw [List.mem_singleton]; rintro rfl; rw [n1] at e; cases e) (le b o e)
    · have e : kvs.take vs.toArray.size = kvs := List.take_of_length_le (by simp; omega)
      rw [e] at D
      exact D.at fun o e => kp d o (by rw [List.mem_singleton]; exact Ne.symm nId) e
  | succ m ih =>
    intro i j h tk hm hi le it D
    have hlt : i < vs.toArray.size := by simp; omega
    refine codeAny_builtin entry_update_loop ?_
    rw [Around.under_plainId plain_update_loop _]
    show wpAny _ A.in1 (pyNext (.ref I) >>= _) _ _ _
    refine wpAny_bind (Wk.item i _ _ _ hlt ⟨it, (hL.mono le).is⟩ fun v h' tk' hP hst kp => ?_)
    have le' : Le h₀.get? h'.get? := fun b o e => kp b o (by rw [List.mem_singleton]; rintro rfl; rw [n1] at e; cases e) (le b o e)
    have hki : i < kvs.length := by simp at hlt; omega
    obtain ⟨v', ev, t, tt, rfl, ht⟩ := prd_get hp (i := i) (b := kvs[i]) (by simp [hki])
    have : v = .ref t := by
      rw [List.getElem?_toArray, ev] at hP; cases hP; rfl
    subst this
    obtain ⟨ot, et, ct, nt, dt⟩ := ht.mono le'
    refine wpAny_bind (wpAny_holding (wpAny_bind (wpAny_tryCatch ?_)))
    unfold Builtin.Dict.pairItems
    refine wpAny_bind (wpAny_typeOf (T := "tuple") ⟨ot, et, ct⟩ ?_)
    rw [if_pos (by decide)]
    refine wpAny_bind (wpAny_seqItems et dt (wpAny_pure ?_))
    show wpAny _ _ (holding [_, _] (dictSet d _ _)) _ _ _
    refine wpAny_holding (wpAny_dictSet_pairs (knd := intKind prog w) (k := kvs[i].1) (intKind_is _ _ _ _) (D.at fun o e => kp d o (by rw [List.mem_singleton]; exact Ne.symm nId) e) (fun h'' hD hs => ?_) ?_)
    · refine wpAny_pure ⟨plainId_quiet plain_update_loop _, ih (i + 1) (j + 1) h'' _ (by omega) (by simp at hlt; omega) ?_ ?_ ?_⟩
      · exact fun b o e => SameBut.ext hs b o (by rintro rfl; rw [n2] at e; cases e) (le' b o e)
      · exact hst.1.at fun o e => SameBut.ext hs I o nId e
      · have sa := stored_absent (kvs := kvs.take i) (k := kvs[i].1) (valueAt_none_of_not_mem (fun q => ?_)) kvs[i].2
        · rw [sa] at hD
          have e2 : kvs.take (i + 1) = kvs.take i ++ [(kvs[i].1, kvs[i].2)] := (List.take_append_getElem hki).symm
          rw [e2]; exact hD
        · rw [List.map_take] at q
          have nd' := nd
          have e3 : (kvs.map (·.1))[i]? = some kvs[i].1 := by simp [hki]
          obtain ⟨r, hr, e4⟩ := List.mem_take_iff_getElem.mp q
          have hr1 : r < i := by omega
          exact List.pairwise_iff_getElem.mp nd r i (by simp; omega) (by simpa using hki) hr1 (by rw [e4]; simp)
    · rw [List.length_take]; omega
theorem update_all {s : Shared} {d a : Addr} {vs : List Value} {kvs : List (Int × Value)} {Q : Fin → Shared → Prop} {R : Result → Shared → Prop} {h₀ : Heap} (hA : A.handled = none) (n2 : h₀.get? d = none) (le : Le h₀.get? s.heap.get?) {k : Nat}
    (hx : h₀.get? a = some { cls := .type "list", data := .seq vs.toArray k }) (hp : Paired (PairV h₀.get?) vs kvs) (nd : (kvs.map (·.1)).Nodup) (hsz : kvs.length ≤ sizeLine) (D : s.heap.DictOf (intKind prog w) d [])
    (fin : ∀ h' tk, Le h₀.get? h'.get? → h'.DictOf (intKind prog w) d kvs → R (.ok (.ret .none)) { s with heap := h', toks := tk })
    (hQ : ∀ c' s', c'.quiet = true → codeAny (model prog w) A c' R s' → Q (.again c') s') :
    wpAny (model prog w) A.in1 (Builtin.Dict.updateFrom "dict.__init__" d (.ref a) [] .none) Q E s := by
  unfold Builtin.Dict.updateFrom
  refine wpAny_bind (wpAny_typeOf (T := "list") ⟨_, le _ _ hx, rfl⟩ ?_)
  rw [if_pos (by decide)]
  refine wpAny_bind (keys_miss (le _ _ hx) hA fun h' tk' k' => ?_)
  rw [if_pos (show (none : Option Value).isNone = true from rfl)]
  refine wpAny_bind (wpAny_rule ?_)
  have le' : Le h₀.get? h'.get? := fun b o e => k' b o (le b o e)
  refine wpAny_bind (wpAny_pyIter_list (items := vs.toArray) ⟨_, le' _ _ hx, rfl, k, rfl⟩ ?_)
  have le2 : Le h₀.get? (h'.push { cls := .type "list_iterator", data := .fields #[.ref a, .int 0 0] }).get? := fun b o e => Heap.get?_push_of_some _ (le' b o e)
  obtain ⟨o', es', ep', e', r⟩ := D
  have dn : h'.get? d ≠ none := by rw [k' _ _ e']; simp
  have dI : h'.objs.size ≠ d := fun q => dn (by rw [← q]; exact Heap.get?_size_none h')
  have hI : h₀.get? h'.objs.size = none := by
    cases q : h₀.get? h'.objs.size with
    | none => rfl
    | some o => have := le' _ _ q; rw [Heap.get?_size_none] at this; cases this
  refine wpAny_pure (hQ _ _ (plainId_quiet plain_update_loop _) ?_)
  refine update_loop (s₀ := s) hA hI n2 dI ⟨_, hx, rfl, k, rfl⟩ hp nd hsz fin _ 0 0 _ _ rfl (Nat.zero_le _) le2 ⟨_, Heap.get?_push_size _ rfl, rfl, rfl⟩ ?_
  exact ⟨o', es', ep', Heap.get?_push_of_some _ (k' _ _ e'), r⟩
end
section
variable {prog : Program} {w : World} {s : Shared} {A : Around} {h h' : Heap} {env : Env}
variable {G G' : PH} {L L' : Addr} {N N' : List (Addr × Obj)} {l l' : List (Str × Value)}
variable {K : Frag} {mg mb : Str → Option Value} {g : Obj → List (Addr × Obj)} {o oL : Obj} {a : Addr}
/-- dict(pairs) -/
theorem w_dictOf {vs : List Value} {kvs : List (Int × Value)} {G' : PH} {Q : Value → Heap → Prop} (F : Fm G L N h l) (S : Stat K mg mb G) (hA : A.handled = none) (U : AtF a o N g) (D : PL o vs) (kG : Le G' h.get?) (hp : Paired (PairV G') vs kvs) (nd : (kvs.map (·.1)).Nodup) (hsz : kvs.length ≤ sizeLine)
    (k : ∀ d o' h', Fm G L ((d, o') :: N) h' l → Le h.get? h'.get? → h.get? d = none → (d == sysModules) = false → o'.IsDictOf (intKind prog w) kvs → Q (.ref d) h') : W prog w s A h (call (.type "dict") [.ref a]) Q := W.mk fun tk => by
  obtain ⟨n, rfl⟩ := D
  refine callType_codes (Q₁ := fun obj s₁ => obj = .ref h.objs.size ∧ s₁ = { s with heap := h.push { cls := .type "dict", data := .dict #[] }, toks := tk }) PySem.F.kt_called_dict (PySem.F.kt_typeCall_dict_1 _) PySem.F.entry_dict_init (kt_code_dict_new _ ⟨rfl, rfl⟩) ?_
  rintro obj s₁ ⟨rfl, rfl⟩
  have hnew : (h.push { cls := .type "dict", data := .dict #[] }).DictOf (intKind prog w) h.objs.size [] := Heap.DictOf.new h
  refine ⟨hnew.typeIs (s := { s with heap := h.push { cls := .type "dict", data := .dict #[] }, toks := tk }), PySem.F.args_dict_init_2 _ _, ?_⟩
  unfold Builtin.«dict.__init__»
  refine wpAny_bind ?_
  unfold Builtin.Dict.selfAndRest
  refine wpAny_bind (wpAny_notOrdered_dict (hnew.typeIs (s := { s with heap := h.push { cls := .type "dict", data := .dict #[] }, toks := tk })) ?_)
  show wpAny _ _ (pure (h.objs.size, [Value.ref a])) _ _ _
  refine wpAny_pure ?_
  refine update_all (h₀ := h) hA (Heap.get?_size_none h) (fun b o e => Heap.get?_push_of_some _ e) (F.get U.mem) (prd_mono hp fun _ _ ⟨t, u, e, i⟩ => ⟨t, u, e, i.mono kG⟩) nd hsz hnew (fun h' tk' le D => ?_) (fun c' s' q x => ⟨q, x⟩)
  obtain ⟨o', e', d'⟩ := Heap.dictOf_iff.mp D
  refine ⟨rfl, _, _, rfl, k _ o' h' ?_ le (Heap.get?_size_none h) (notModules S F (Nat.le_refl _)) d'⟩
  have F1 := F.alloc { cls := .type "dict", data := .dict #[] }
  exact ⟨(F.keeps le).ns, (F.keeps le).keep, F.off, fun p hp => by
    rcases List.mem_cons.mp hp with rfl | hp
    · exact ⟨e', (F1.nw _ (.head _)).2⟩
    · exact (F.keeps le).nw p hp, F1.nd⟩
/-- a dict's keys -/
theorem src_dict {d : Addr} {kvs : List (Int × Value)} (hh : A.handled = none) (I : DctG prog w G d kvs) (lo : (d == sysModules) = false) (F : Fm G L N h l) :
    W prog w s A h (pyIter (.ref d)) (fun it h₂ => Le h.get? h₂.get? ∧ Src prog w A it h₂ G L N l kvs.length (fun i v => ∃ k t x, v = .int k t ∧ kvs[i]? = some (k, x))) := by
  have Ih := (I.mono F.keep).is
  have ne : d ≠ h.objs.size := fun e => by
    obtain ⟨o, ho, _⟩ := I.mono F.keep
    rw [e, Heap.get?_size_none] at ho; cases ho
  obtain ⟨ep, Dt⟩ := Ih.dictAt
  have Wk := Walks.dictKeys (prog := prog) (w := w) (knd := intKind prog w) hh h.objs.size d ne kvs ep
  refine W.mk fun tk => wpAny_pyIter_dict lo Dt ⟨_, _, rfl, fun _ _ e => Heap.get?_push_of_some _ e, h.objs.size, _, [h.objs.size, d], fun i h' => h'.IsKeyIter h.objs.size d i kvs.length ep ∧ h'.DictAt (intKind prog w) d kvs ep, rfl,
    ?_, fun i h st => let ⟨o, e, _⟩ := st.1; ⟨o, e⟩, fun b hb => ?_, F.alloc _, ⟨⟨_, Heap.get?_push_size _ rfl, rfl, rfl⟩, Dt.at' fun o e => Heap.get?_push_of_some _ e⟩⟩
  · refine ⟨Wk.sub, Wk.frame, fun i s Q E hi st hQ => Wk.item i s Q E hi st fun v h' tk hP hst hk => hQ v h' tk ?_ hst hk, Wk.done, Wk.self⟩
    obtain ⟨k, x, e, hk⟩ := hP
    obtain ⟨t, rfl⟩ := Value.isInt_shape hk
    exact ⟨k, t, x, rfl, e⟩
  · rcases List.mem_cons.mp hb with e | hb
    · exact .inl e
    · rw [List.mem_singleton.mp hb]
      obtain ⟨o, ho, _⟩ := I
      exact .inr ⟨o, ho⟩
end
section
variable {prog : Program} {w : World} {s : Shared} {A : Around} {h h' : Heap} {env : Env}
variable {G G' : PH} {L L' : Addr} {N N' : List (Addr × Obj)} {l l' : List (Str × Value)}
variable {K : Frag} {mg mb : Str → Option Value} {g : Obj → List (Addr × Obj)} {o oL : Obj} {a : Addr}
theorem Fm.perm (F : Fm G L N h l) (p : N'.Perm N) : Fm G L N' h l := F.swap (fun q hq => p.mem_iff.mp hq) ((p.map (·.1)).nodup_iff.mpr F.nd)
theorem Fm.less (F : Fm G' L N h l) (k : Le G G') : Fm G L N h l := by
  have nn : ∀ b, G' b = none → G b = none := fun b e => by
    cases q : G b with
    | none => rfl
    | some o => rw [k _ _ q] at e; cases e
  exact ⟨F.ns, k.trans F.keep, nn _ F.off, fun p hp => ⟨(F.nw p hp).1, nn _ (F.nw p hp).2.1, (F.nw p hp).2.2⟩, F.nd⟩
/-- a new instance: itself to the base, its fields to the ledger -/
theorem InstF.take {x C : Addr} {fs : List (Str × Value)} (I : InstF h h' x C fs) (F : Fm G L N h l) (le : Le h.get? h'.get?) :
    ∃ G' d o, Le G G' ∧ G' x = some (instObj C d) ∧ DF o fs ∧ Fm G' L ((d, o) :: N) h' l := by
  obtain ⟨dx, es, n, nx, nd, ne, ex, ed, fa⟩ := I
  have F₁ := F.keeps le
  have z := F.fresh (h' := h') nd
  have zx := F.fresh (h' := h') nx
  have gd : G dx = none := by
    cases q : G dx with
    | none => rfl
    | some o => rw [F.keep _ _ q] at nd; cases nd
  have F₂ : Fm G L ((dx, dictOf es n) :: N) h' l := by
    refine ⟨F₁.ns, F₁.keep, F₁.off, fun p hp => ?_, ?_⟩
    · rcases List.mem_cons.mp hp with rfl | hp
      · exact ⟨ed, gd, z.1⟩
      · exact F₁.nw p hp
    · rw [List.map_cons, List.nodup_cons]
      refine ⟨fun q => ?_, F₁.nd⟩
      obtain ⟨p, hp, e⟩ := List.mem_map.mp q
      exact z.2 p hp e
  refine ⟨_, dx, _, F₂.rebase.1, ?_, ⟨es, n, rfl, fa⟩, F₂.rebase.2⟩
  rw [offAll_out]
  · exact ex
  · intro q
    rcases List.mem_cons.mp q with q | q
    · exact zx.1 q
    rcases List.mem_cons.mp q with q | q
    · exact ne q
    · obtain ⟨p, hp, e⟩ := List.mem_map.mp q
      exact zx.2 p hp e
theorem w_ownList {elts : List Expr} {kd : Nat} {pos : Pos} {I i : Nat} {v : Value} {Q : Unit → Heap → Prop} (hit : h.IsListIter I a i) (k : Q () h) : W prog w s A h (letOwnedTupleGo (.Tuple elts kd pos) (.ref I) v) Q := W.mk fun tk => by
  cases v
  case ref T => exact wpAny_letOwnedTupleGo_listiter hit ⟨_, _, rfl, k⟩
  all_goals (unfold letOwnedTupleGo; exact wpAny_pure ⟨_, _, rfl, k⟩)
/-- a for over a list that stands, a tuple for target -/
theorem w_forListT {elts : List Expr} {kd : Nat} {px : Pos} {iter : Expr} {body : List Stmt} {pos : Pos} {rest : List Stmt} {Q : Flow → Heap → Prop}
    (k : W prog w s A h (eval iter env) (fun xv h₁ => ∃ a vs G L N l, ∃ J : Nat → PH → List (Addr × Obj) → List (Str × Value) → Prop,
      xv = .ref a ∧ A.handled = none ∧ LstG G a vs ∧ Fm G L N h₁ l ∧ J 0 G N l ∧ Turns prog w s A env (.Tuple elts kd px) body rest Q vs.length (fun i v => vs[i]? = some v) G L J))
    (hs : ∀ x, foldedSetIterable iter env x = Pure.pure x := by intro _; rfl) :
    W prog w s A h (execs (.For (.Tuple elts kd px) iter body [] pos :: rest) env) Q := by
  refine w_for (k.mono fun xv h₁ q => ?_) hs
  obtain ⟨a, vs, G, L, N, l, J, rfl, hh, I, F, hJ, turn, done⟩ := q
  have Ih := I.mono F.keep
  have ne : a ≠ h₁.objs.size := fun e => by
    obtain ⟨o, ho, _⟩ := Ih
    rw [e, Heap.get?_size_none] at ho; cases ho
  refine W.mk fun tk => wpAny_pyIter_list Ih.is ⟨_, _, rfl, h₁.objs.size, _, [h₁.objs.size, a], vs.toArray.size, fun i v => vs.toArray[i]? = some v, fun i h => h.IsListIter h₁.objs.size a i ∧ h.IsList a vs.toArray, G, L, N, l, J, rfl,
    Walks.list hh _ a ne vs.toArray, fun i h st => let ⟨o, e, _⟩ := st.1; ⟨o, e⟩, fun b hb => ?_, F.alloc _, ⟨⟨_, Heap.get?_push_size _ rfl, rfl, rfl⟩, (I.mono (F.push _).keep).is⟩, hJ, ?_, ?_, ?_⟩
  · rcases List.mem_cons.mp hb with e | hb
    · exact .inl e
    · rw [List.mem_singleton.mp hb]
      obtain ⟨o, ho, _⟩ := I
      exact .inr ⟨o, ho⟩
  · intro i v h' Q' st q
    exact w_ownList st.1 q
  · intro i v G' H N' l' h' hi hP hG F' hJ'
    exact turn i v G' H N' l' h' (by simpa using hi) (by simpa using hP) hG F' hJ'
  · intro G' N' l' h' hG F' hJ'
    exact done G' N' l' h' hG F' (by simpa using hJ')
theorem perm_in {α : Type} (d a : α) (H ns M : List α) : (H ++ a :: ((ns ++ [d]) ++ M)).Perm (d :: (H ++ a :: (ns ++ M))) := by
  have : H ++ a :: ((ns ++ [d]) ++ M) = (H ++ a :: ns) ++ d :: M := by simp
  rw [this]
  exact List.perm_middle.trans (by simp)
/-- back from a callee's frame to the caller's -/
theorem Fm.flip {C D : Addr} {N₀ : List (Addr × Obj)} (F : Fm G' C ((D, o) :: (L, oL) :: N') h' l') (F₀ : Fm G L N₀ h l) (eL : h.get? L = some oL) : ∃ oC, (∀ m, h'.Ns C m → ∀ h'' : Heap, h''.get? C = some oC → h''.Ns C m) ∧ Fm G' L ((C, oC) :: (D, o) :: N') h' l := by
  have zL := F.nw _ (.tail _ (.head _))
  have zD := F.nw _ (.head _)
  have nd := F.nd
  rw [List.map_cons, List.map_cons, List.nodup_cons, List.nodup_cons] at nd
  obtain ⟨m, ⟨oC, es, ep, e, r⟩, kn⟩ := F.ns
  refine ⟨oC, fun m' ⟨oC', es', ep', e', r'⟩ h'' e'' => ?_, F₀.ns.at' fun o e => by rw [eL] at e; cases e; exact zL.1, F.keep, zL.2.1, fun p hp => ?_, ?_⟩
  · rw [e] at e'; cases e'
    exact ⟨oC, es', ep', e'', r'⟩
  · rcases List.mem_cons.mp hp with rfl | hp
    · exact ⟨e, F.off, fun q => zL.2.2 q.symm⟩
    rcases List.mem_cons.mp hp with rfl | hp
    · exact ⟨zD.1, zD.2.1, fun q => nd.1 (by dsimp only at q; rw [q]; exact .head _)⟩
    · have z := F.nw _ (.tail _ (.tail _ hp))
      exact ⟨z.1, z.2.1, fun q => nd.2.1 (q ▸ List.mem_map.mpr ⟨p, hp, rfl⟩)⟩
  · rw [List.map_cons, List.map_cons, List.nodup_cons, List.nodup_cons]
    refine ⟨fun q => ?_, fun q => nd.1 (.tail _ q), nd.2.2⟩
    rcases List.mem_cons.mp q with q | q
    · exact zD.2.2 q.symm
    · obtain ⟨p, hp, e⟩ := List.mem_map.mp q
      exact (F.nw _ (.tail _ (.tail _ hp))).2.2 e
theorem Fm.off1 {C : Addr} {oC : Obj} (F : Fm G L ((C, oC) :: N) h l) (k : ∀ b x, b ≠ C → h.get? b = some x → h'.get? b = some x) : Fm G L N h' l := by
  have z := F.nw _ (.head _)
  have nd := F.nd
  rw [List.map_cons, List.nodup_cons] at nd
  refine ⟨F.ns.at' fun o e => k _ _ (Ne.symm z.2.2) e, fun b x e => k _ _ (fun q => ?_) (F.keep b x e), F.off, fun p hp => ?_, nd.2⟩
  · rw [q, z.2.1] at e; cases e
  · have zp := F.nw _ (.tail _ hp)
    exact ⟨k _ _ (fun q => nd.1 (List.mem_map.mpr ⟨p, hp, q⟩)) zp.1, zp.2⟩
/-- x = [.. for .. in ..] -/
theorem w_assignComp {elt iter : Expr} {x y : Str} {px py : Pos} {scope : Scope} {cl : List (Str × Addr)} {pos spos : Pos} {rest : List Stmt} {Q : Flow → Heap → Prop}
    (hsw : swapsWith (.ListComp elt [⟨.Name x px, iter, [], 0⟩] scope pos) (some (.Name y py)) spos.line env = pure true)
    (hclos : closureFor scope env = pure cl) (hcell : ∀ y ∈ scope.names, y.2 ≠ .cell) (hkind : scope.kind = .function) (hnames : ∀ y ∈ scope.names, y.2 = .local → scope.names.lookup y.1 = some .local) (hx : scope.names.lookup x = some .local)
    (hL : env.locals = L) (hk : env.scope.kind = .function) (hy : env.kindOf y = some .local)
    (k : W prog w s A h (eval iter env) (fun xv h₁ => W prog w s A h₁ (pyIter xv) (fun it h₂ => ∃ G N l n P, ∃ J : Nat → PH → List (Addr × Obj) → List Value → Prop, Src prog w A it h₂ G L N l n P ∧ n ≤ sizeLine ∧ J 0 G N [] ∧ CTurns prog w s A env scope cl x elt n P G J ∧
      (∀ G' D o N' ys h', Le G G' → Fm G' L ((D, o) :: N') h' ((y, .ref D) :: l) → PL o ys → ys.length = n → J n G' N' ys → W prog w s A h' (execs rest env) Q))))
    (hs : ∀ x, foldedSetIterable iter env x = pure x := by intro _; rfl) : W prog w s A h (execs (.Assign [.Name y py] (.ListComp elt [⟨.Name x px, iter, [], 0⟩] scope pos) spos :: rest) env) Q := by
  refine w_cons (W.mk fun tk => ?_)
  rw [exec_Assign_Name_used _ _ _ _ hsw]
  refine wpAny_bind (wpAny_standAt (wpAny_bind ?_))
  show wpAny _ A (do let _ ← comprehension (.ListComp elt [⟨.Name x px, iter, [], 0⟩] scope pos) scope env _ (newList []) false (eval iter env) (some (assign (.Name y py) env))) _ _ _
  refine wpAny_bind (wpAny_mono (wpAny_comprehension_free (use := some (assign (.Name y py) env)) (Q := fun _ s' => ∃ h' tk', s' = { s with heap := h', toks := tk' } ∧ W prog w s A h' (execs rest env) Q) rfl hs hclos hkind hnames (k.via tk fun xv h₁ tk₁ q => q.via tk₁ fun it h₂ tk₂ q => ?_)) (fun _ s' hq => wpAny_pure (wpAny_pure ?_)) fun _ _ e => e)
  · obtain ⟨G, N, l, n, P, J, X, hsz, hJ, turn, done⟩ := q
    refine comp_core hcell hkind hx X hsz hJ turn (RR := fun acc C => compPost (model prog w) A EE (some (assign (.Name y py) env)) (fun _ s' => ∃ h' tk', s' = { s with heap := h', toks := tk' } ∧ W prog w s A h' (execs rest env) Q) acc C) (fun G' C D o oL N' ys h' tk l' hG F eL DD hlen hJ' => ?_) tk₂
    obtain ⟨I, io, fp, St, rfl, Wk, alive, hfp, F₀, hst⟩ := X
    obtain ⟨m, ns, _⟩ := F.ns
    obtain ⟨oC, hC, F₁⟩ := F.flip F₀ eL
    show wpAny _ A (assign (.Name y py) env (.ref D)) _ _ _
    have st : W prog w s A h' (assign (.Name y py) env (.ref D)) (fun _ h₃ => Fm G' L ((C, oC) :: (D, o) :: N') h₃ ((y, .ref D) :: l)) := w_asgName (w_store F₁ (fun h₃ F₃ => F₃) hL hk hy)
    refine wpAny_mono (st.out tk) (fun _ s₃ q => ?_) fun _ _ e => e.elim
    obtain ⟨h₃, tk₃, rfl, F₃⟩ := q
    exact ⟨m, hC m ns _ (F₃.get (.head _)), fun h₄ hs₄ => ⟨h₄, tk₃, rfl, done G' D o N' ys h₄ hG (F₃.off1 (SameBut.ext hs₄)) DD hlen hJ'⟩⟩
  · obtain ⟨h', tk', e, q⟩ := hq
    exact ⟨h', tk', e, q⟩
/-- whole numbers -/
theorem w_intOf {n : Int} {t : Tok} {Q : Value → Heap → Prop} (k : Q (.int n t) h) : W prog w s A h (call (.type "int") [.int n t]) Q := W.mk fun tk => call_int_int ⟨_, _, rfl, k⟩
theorem w_abs {n : Int} {t : Tok} {Q : Value → Heap → Prop} (k : ∀ u, Q (.int n.natAbs u) h) : W prog w s A h (call (.builtin "abs") [.int n t]) Q := W.mk fun tk => call_abs_int fun u tk' => ⟨_, _, rfl, by
  have e : (if n < 0 then -n else n) = (n.natAbs : Int) := by split <;> omega
  rw [e]; exact k u⟩
end
section
variable {h h' : Heap} {G : PH} {L b : Addr} {N : List (Addr × Obj)} {l : List (Str × Value)} {o : Obj} {P : Prop}
/-- the same by continuation: no motive copies the goal -/
theorem Fm.settleK (F : Fm G L ((b, o) :: N) h l) (k : ∀ G', Le G G' → Fm G' L N h l → G' b = some o → P) : P := let ⟨G', x, y, z⟩ := F.settle; k G' x y z
theorem InstF.stdK {x C : Addr} {fs : List (Str × Value)} (I : InstF h h' x C fs) (F : Fm G L N h l) (le : Le h.get? h'.get?)
    (k : ∀ G', Le G G' → Fm G' L N h' l → InstG G' x C fs → (∀ h₀ h'', Le h₀.get? h.get? → Le G' h''.get? → InstF h₀ h'' x C fs) → P) : P := let ⟨G', x, y, z, u⟩ := I.std F le; k G' x y z u
theorem InstF.takeK {x C : Addr} {fs : List (Str × Value)} (I : InstF h h' x C fs) (F : Fm G L N h l) (le : Le h.get? h'.get?)
    (k : ∀ G' d o, Le G G' → G' x = some (instObj C d) → DF o fs → Fm G' L ((d, o) :: N) h' l → P) : P := let ⟨G', d, o, x, y, z, u⟩ := I.take F le; k G' d o x y z u
theorem Fm.lendK (F : Fm G L N h l) (k : ∀ oL, (∀ p ∈ (L, oL) :: N, h.get? p.1 = some p.2 ∧ G p.1 = none) → (((L, oL) :: N).map (·.1)).Nodup → (∀ G' L' N' h' l', Le G G' → Fm G' L' ((L, oL) :: N') h' l' → Fm G' L N' h' l) → P) : P :=
  let ⟨oL, x, y, z⟩ := F.lend; k oL x y z
theorem Fm.standK (F : Fm G L N h l) (k : ∀ G', Le G G' → Fm G' L N h l → (∀ b o, h.get? b = some o → b ≠ L → (∀ p ∈ N, p.1 ≠ b) → G' b = some o) → P) : P := let ⟨G', x, y, z⟩ := F.stand; k G' x y z
end
theorem br_d {p : Prop} [Decidable p] {A B : Prop} (a : p → A) (b : ¬ p → B) : (decide p = true → A) ∧ (decide p = false → B) := ⟨fun h => a (of_decide_eq_true h), fun h => b (of_decide_eq_false h)⟩
theorem Fm.letK {P : Prop} {G : PH} {L : Addr} {N : List (Addr × Obj)} {h : Heap} {l : List (Str × Value)} (F : Fm G L N h l) (k : let l' := l; Fm G L N h l' → P) : P := k F
theorem law_in {prog : Program} {w : World} {s : Shared} {A : Around} {G : PH} {L : Addr} {N : List (Addr × Obj)} {h : Heap} {l : List (Str × Value)} {env : Env} {b : List Stmt} {Q : Flow → Heap → Prop}
    (F : Fm G L N h l) (k : let e := env; let l' := l; Fm G L N h l' → W prog w s A h (execs b e) Q) : W prog w s A h (execs b env) Q := k F
theorem primed_all : True := by
  first
  | (have h : PySem.Challenge.rw_nu0186_01.Holds ∧ hd.heap_39 = hd.heap_39 := by (k_fill; fail); trivial)
  | trivial
set_option hygiene false
local macro_rules | `(tactic| walk_at "om") => `(tactic| first | lia | omega)
local macro_rules | `(tactic| walk_at "as") => `(tactic| first | with_reducible assumption | assumption)
local macro_rules | `(tactic| walk_at "le") => `(tactic| first | with_reducible assumption | with_reducible exact Le.refl _ | exact Fm.keep (by with_reducible assumption) | assumption | exact Le.trans (by assumption) (Fm.keep (by assumption)))
local macro_rules | `(tactic| walk_at "st") => `(tactic| first | with_reducible assumption | exact Stat.mono (by with_reducible assumption) (by walk_at "le"))
local macro_rules | `(tactic| walk_at "rm") => `(tactic| first | with_reducible assumption | exact Rm.le (by with_reducible assumption) (by decide) | exact Rm.deeper (by walk_at "rm") | exact Rm.in1 (by walk_at "rm") | exact under_new (by walk_at "rm"))
local macro_rules | `(tactic| walk_at "hh") => `(tactic| first | with_reducible assumption | exact Rm.hd (n := 0) (by walk_at "rm"))
local macro_rules | `(tactic| walk_at "sz") => `(tactic| (simp only [List.length_cons, List.length_nil, sizeLine_eq]; walk_at "om"))
local macro_rules | `(tactic| walk_at "enter") => `(tactic| refine w_enter ?_)
local macro_rules | `(tactic| walk_at "enterN") => `(tactic| refine w_enterN ?_)
local macro_rules | `(tactic| walk_at "atf") => `(tactic| first | with_reducible assumption | with_reducible exact AtF.head | (with_reducible apply AtF.tail; walk_at "atf") | (with_reducible apply AtF.app; walk_at "atf"))
local macro_rules | `(tactic| walk_at "putf") => `(tactic| first | with_reducible exact PutF.nil | with_reducible exact PutF.hit | (apply PutF.miss; exact rfl; walk_at "putf"))
local macro_rules | `(tactic| walk_at "tupg") => `(tactic| first | exact TupG.of (Fm.get (by walk_at "as") (.head _)) | walk_at "as")
local macro_rules | `(tactic| walk_at "nF") => `(tactic| rename Fm _ _ _ _ _ => zF)
local macro_rules | `(tactic| walk_at "back") => `(tactic| (intro zh zk; walk_at "nF"; replace zF := Fm.keeps zF zk; clear zk))
local macro_rules | `(tactic| walk_at "ze") => `(tactic| first
  | (guard_target = W _ _ _ _ _ (eval (Expr.Name _ _) _) _; first | refine w_local ?_ | refine w_global ?_ | refine w_cell ?_ | refine w_builtin ?_)
  | with_reducible first
    | refine w_int fun _ => ?_
    | refine w_attr ?_
    | refine w_binop ?_
    | refine w_cmp ?_
    | refine w_chain ?_
    | refine w_unary ?_
    | refine w_ifexp ?_
    | refine w_bop1 ?_
    | refine w_and ?_
    | refine w_or ?_
    | refine w_slice ?_
    | refine w_sub ?_
    | refine w_call ?_
    | refine w_mcall ?_
    | refine w_str fun _ => ?_
    | refine w_bool ?_
    | refine w_none ?_
    | refine w_list ?_
    | refine w_tuple ?_
  | (guard_target = W _ _ _ _ _ (eval (Expr.Dict _ _ _) _) _; walk_at "nF"; (first | with_reducible refine w_dict0 zF ?_ | refine w_dict ?_); clear zF; intros))
local macro_rules | `(tactic| walk_at "zb") => `(tactic| first
  | with_reducible first
    | refine w_add fun _ => ?_
    | refine w_minus fun _ => ?_
    | refine w_band fun _ => ?_
    | refine w_bor fun _ => ?_
  | (guard_target = W _ _ _ _ _ (binaryOp Operator.FloorDiv _ _) _; refine w_fdiv fun _ => ?_)
  | (guard_target = W _ _ _ _ _ (binaryOp Operator.Mod _ _) _; refine w_mod fun _ => ?_)
  | (guard_target = W _ _ _ _ _ (binaryOp Operator.Mult _ _) _; refine w_mulR fun _ => ?_))
local macro_rules | `(tactic| walk_at "zs") => `(tactic| with_reducible first
  | refine w_return ?_
  | refine w_return0 ?_
  | refine w_assign ?_
  | refine w_assignAttr ?_
  | refine w_assignSub ?_
  | refine w_if ?_
  | refine w_exprS ?_
  | refine w_assignTup ?_
  | refine w_assignTupS2 ?_
  | refine w_assignTupS3 ?_
  | refine w_nil ?_
  | refine w_appc ?_
  | refine w_app0 ?_)
local macro_rules | `(tactic| walk_at "zt") => `(tactic| with_reducible first
  | refine w_tcmp ?_
  | refine w_tchain ?_
  | refine w_tnot ?_
  | refine w_tifexp ?_
  | refine w_tand ?_
  | refine w_tor ?_
  | refine w_tand0 ?_
  | refine w_tor0 ?_
  | refine w_tplain ?_)
local macro_rules | `(tactic| walk_at "zc") => `(tactic| first
  | with_reducible first
    | refine w_lt ?_
    | refine w_le ?_
    | refine w_gt ?_
    | refine w_ge ?_
    | refine w_eq ?_
    | refine w_ne ?_
    | refine w_eqstr ?_
    | refine w_isNone ?_
    | refine w_isNotNone ?_
  | (guard_target = W _ _ _ _ _ (compareOp CmpOp.In (Value.int _ _) (Value.ref _)) _; first | walk_at "zmapIn" | refine w_inTupInt ?_ | refine w_din ?_)
  | (guard_target = W _ _ _ _ _ (compareOp CmpOp.NotIn (Value.int _ _) (Value.ref _)) _; first | walk_at "zmapNotIn" | refine w_dnotin ?_)
  | (guard_target = W _ _ _ _ _ (compareOp CmpOp.NotIn (Value.str _ _) (Value.ref _)) _; refine w_notInStrs ?_))
local macro_rules | `(tactic| walk_at "zw") => `(tactic| first
  | refine w_with ?_
  | refine w_withB ?_
  | refine w_with0 ?_
  | refine w_withB0 ?_)
local macro_rules | `(tactic| walk_at "zset") => `(tactic| (
  walk_at "nF"; rename DF _ _ => zD
  refine w_setattr2 zF zD ?_
  clear zD zF
  intro zo zh zD zF))
local macro_rules | `(tactic| walk_at "ctor") => `(tactic| (
  refine Ctor.mk ?_
  intro L x dx G h₁ A' R eE F S ex D le
  simp only [List.reverse_cons, List.reverse_nil, List.nil_append, List.cons_append] at F
  repeat' walk_at "z"
  refine ⟨rfl, _, _, _, (by assumption), ?_, (by first | assumption | exact Fm.drop (by assumption) | exact Fm.drop (Fm.drop (by assumption)))⟩
  repeat' first | exact rfl | apply Exists.intro))
local macro_rules | `(tactic| walk_at "zf") => `(tactic| first
  | (with_reducible refine w_min2 ?_; walk_at "back"; intro _)
  | (guard_target = W _ _ _ _ _ (call (Value.builtin "len") _) _; first | refine w_len fun _ => ?_ | refine w_lenT fun _ => ?_)
  | (guard_target = W _ _ _ _ _ (call (Value.builtin "dict.get") [_, Value.int _ _, _]) _; refine w_dget2 ?_))
local macro_rules | `(tactic| walk_at "z") => `(tactic| first
  | (guard_target = W _ _ _ _ _ (eval _ _) _; walk_at "ze")
  | (guard_target = W _ _ _ _ _ (execs _ _) _; walk_at "zs")
  | (guard_target = W _ _ _ _ _ (isTrue _ _ _) _; walk_at "zt")
  | (guard_target = W _ _ _ _ _ (binaryOp _ _ _) _; walk_at "zb")
  | (guard_target = W _ _ _ _ _ (compareOp _ _ _) _; walk_at "zc")
  | with_reducible first | refine w_kcw ?_ | refine w_kin0 ?_ | refine w_kin1 ?_ | refine w_kcl0 ?_ | refine w_kcl1 ?_
  | (guard_target = W _ _ _ _ _ (callWith _ _ _ _ _) _; walk_at "zw")
  | (guard_target = W _ _ _ _ _ (call (Value.builtin _) _) _; walk_at "zf")
  | with_reducible first
    | refine w_items0 ?_
    | refine w_items ?_
    | refine w_asgName ?_
    | refine w_part ?_
    | refine w_part0 ?_
    | refine w_kao2 ?_
    | refine w_kao3 ?_
    | refine w_bindName ?_
    | refine w_asgAttr ?_
    | refine w_tbool ?_
    | refine w_tint ?_
    | refine w_neg fun _ => ?_
    | refine w_inv fun _ => ?_
    | refine w_not ?_
    | refine w_tlink ?_
    | refine w_link ?_
    | refine w_pairs ?_
  | (guard_target = W _ _ _ _ _ (testChain _ _ [_] _) _; refine w_tlast ?_)
  | (guard_target = W _ _ _ _ _ (compareChain _ _ [_] _) _; refine w_last ?_)
  | (guard_target = W _ _ _ _ _ (assignInOrder _ (_ :: _)) _; refine w_inOrder ?_)
  | (guard_target = W _ _ _ _ _ (assignInOrder _ []) _; refine w_inOrder0 ?_)
  | (guard_target = W _ _ _ _ _ (evalPairs (pairTrees [] _ _ _)) _; refine w_pairs0 ?_)
  | (guard_target = W _ _ _ _ _ (getAttr _ _ _) _; refine w_get ?_)
  | (guard_target = W _ _ _ _ _ (storeName _ _ _) _; walk_at "nF"; refine w_store zF ?_; clear zF; intro zh zF)
  | (guard_target = W _ _ _ _ _ (getMethod _ _ _) _; first | refine w_meth ?_ | refine w_dget ?_)
  | (guard_target = W _ _ _ _ _ (setAttr _ _ _) _; walk_at "zset")
  | (guard_target = W _ _ _ _ _ (subscriptTail _ (Expr.Constant _ _ _) _ (Value.int _ _)) _; first | refine w_subTupC ?_ | refine w_subLedC ?_)
  | (guard_target = W _ _ _ _ _ (assign (Expr.Tuple _ _ _) _ (Value.ref _)) _; walk_at "nF"; refine w_asgTup zF ?_; clear zF; intro zh zF zk)
  | (guard_target = W _ _ _ _ _ (unpackItems _ _ none) _; walk_at "nF"; refine w_unpackItems zF ?_; clear zF; intro zh zF zk)
  | (guard_target = W _ _ _ _ _ (newList _) _; walk_at "nF"; refine w_newList zF ?_; clear zF; intro za zh zF zk zn)
  | (guard_target = W _ _ _ _ _ (newTuple _) _; walk_at "nF"; refine w_newTuple zF ?_; clear zF; intro za zh zF zk zn)
  | (guard_target = W _ _ _ _ _ (truthy (Value.ref _)) _; refine w_tlist ?_)
  | ((with_reducible refine br_d (fun zB => ?_) (fun zB => ?_)) <;> first | exact absurd zB (by decide) | exact absurd (by decide) zB | exact absurd rfl zB | exact PySem.Value.noConfusion zB | exact (zB (fun e => PySem.Value.noConfusion e)).elim | skip)
  | ((with_reducible refine And.intro (fun (zB : _ = true) => ?_) (fun (zB : _ = false) => ?_)) <;> (try simp only [eq_self, reduceCtorEq, Int.reduceEq, Int.reduceLT, Int.reduceLE, decide_eq_true_eq, decide_eq_false_iff_not, Bool.not_eq_true', Bool.not_eq_false', Bool.and_eq_true, Bool.or_eq_true, ne_eq, not_true_eq_false, not_false_eq_true, Bool.true_eq_false, Bool.false_eq_true, Bool.not_true, Bool.not_false] at zB))
  | fail)
local macro_rules | `(tactic| walk_at "draw") => `(tactic| (
  walk_at "nF"; rename PenO _ _ _ => zP
  refine w_draw zF zP ?_
  clear zP zF))
local macro_rules | `(tactic| walk_at "zmapIn") => `(tactic| refine w_mapIn ?_)
local macro_rules | `(tactic| walk_at "zmapNotIn") => `(tactic| refine w_mapNotIn ?_)
set_option hygiene true
section
variable {prog : Program} {w : World} {s : Shared} {A : Around} {h : Heap} {G : PH} {mg mb : Str → Option Value}
theorem sp_Anchor {v0 v1 : Value} {Q : Value → Heap → Prop} (S : Stat (hd.heap_39 w.params) mg mb h.get?) (R : Rm A 3) (k : ∀ h' x, Le h.get? h'.get? → InstF h h' x 45 [("x", v0), ("y", v1)] → Q (.ref x) h') :
    W prog w s A h (call (.ref 45) [v0, v1]) Q := by
  refine w_make (n := 1) (fun x => [("self", .ref x), ("x", v0), ("y", v1)]) (fun fs => fs = ([("x", v0), ("y", v1)] : List (Str × Value))) S R (fun h' x fs le I e => k h' x le (e ▸ I)) ?_
  walk_at "ctor"
theorem sp_Lookup {v0 v1 v2 v3 : Value} {Q : Value → Heap → Prop} (S : Stat (hd.heap_39 w.params) mg mb h.get?) (R : Rm A 3) (k : ∀ h' x, Le h.get? h'.get? → InstF h h' x 90 [("kind", v0), ("flag", v1), ("mark_set", v2), ("tables", v3)] → Q (.ref x) h') :
    W prog w s A h (call (.ref 90) [v0, v1, v2, v3]) Q := by
  refine w_make (n := 1) (fun x => [("self", .ref x), ("kind", v0), ("flag", v1), ("mark_set", v2), ("tables", v3)]) (fun fs => fs = ([("kind", v0), ("flag", v1), ("mark_set", v2), ("tables", v3)] : List (Str × Value))) S R (fun h' x fs le I e => k h' x le (e ▸ I)) ?_
  walk_at "ctor"
theorem sp_Scene {v0 v1 v2 v3 v4 v5 : Value} {Q : Value → Heap → Prop} (S : Stat (hd.heap_39 w.params) mg mb h.get?) (R : Rm A 3) (k : ∀ h' x, Le h.get? h'.get? → InstF h h' x 112 [("buffer", v0), ("gdef", v1), ("lookups", v2), ("lookup", v3), ("mask", v4), ("depth", v5)] → Q (.ref x) h') :
    W prog w s A h (call (.ref 112) [v0, v1, v2, v3, v4, v5]) Q := by
  refine w_make (n := 1) (fun x => [("self", .ref x), ("buffer", v0), ("gdef", v1), ("lookups", v2), ("lookup", v3), ("mask", v4), ("depth", v5)]) (fun fs => fs = ([("buffer", v0), ("gdef", v1), ("lookups", v2), ("lookup", v3), ("mask", v4), ("depth", v5)] : List (Str × Value))) S R (fun h' x fs le I e => k h' x le (e ▸ I)) ?_
  walk_at "ctor"
theorem sp_ClassDef {v0 : Value} {Q : Value → Heap → Prop} (S : Stat (hd.heap_39 w.params) mg mb h.get?) (R : Rm A 3) (k : ∀ h' x, Le h.get? h'.get? → InstF h h' x 462 [("classes", v0)] → Q (.ref x) h') :
    W prog w s A h (call (.ref 462) [v0]) Q := by
  refine w_make (n := 1) (fun x => [("self", .ref x), ("classes", v0)]) (fun fs => fs = ([("classes", v0)] : List (Str × Value))) S R (fun h' x fs le I e => k h' x le (e ▸ I)) ?_
  walk_at "ctor"
theorem sp_Coverage {v0 : Value} {Q : Value → Heap → Prop} (S : Stat (hd.heap_39 w.params) mg mb h.get?) (R : Rm A 3) (k : ∀ h' x, Le h.get? h'.get? → InstF h h' x 504 [("glyphs", v0)] → Q (.ref x) h') :
    W prog w s A h (call (.ref 504) [v0]) Q := by
  refine w_make (n := 1) (fun x => [("self", .ref x), ("glyphs", v0)]) (fun fs => fs = ([("glyphs", v0)] : List (Str × Value))) S R (fun h' x fs le I e => k h' x le (e ▸ I)) ?_
  walk_at "ctor"
theorem sp_MarkBase {v0 v1 : Value} {Q : Value → Heap → Prop} (S : Stat (hd.heap_39 w.params) mg mb h.get?) (R : Rm A 3) (k : ∀ h' x, Le h.get? h'.get? → InstF h h' x 291 [("marks", v0), ("bases", v1)] → Q (.ref x) h') :
    W prog w s A h (call (.ref 291) [v0, v1]) Q := by
  refine w_make (n := 1) (fun x => [("self", .ref x), ("marks", v0), ("bases", v1)]) (fun fs => fs = ([("marks", v0), ("bases", v1)] : List (Str × Value))) S R (fun h' x fs le I e => k h' x le (e ▸ I)) ?_
  walk_at "ctor"
theorem sp_MarkComponent {v0 v1 : Value} {Q : Value → Heap → Prop} (S : Stat (hd.heap_39 w.params) mg mb h.get?) (R : Rm A 3) (k : ∀ h' x, Le h.get? h'.get? → InstF h h' x 317 [("marks", v0), ("ligatures", v1)] → Q (.ref x) h') :
    W prog w s A h (call (.ref 317) [v0, v1]) Q := by
  refine w_make (n := 1) (fun x => [("self", .ref x), ("marks", v0), ("ligatures", v1)]) (fun fs => fs = ([("marks", v0), ("ligatures", v1)] : List (Str × Value))) S R (fun h' x fs le I e => k h' x le (e ▸ I)) ?_
  walk_at "ctor"
theorem sp_MarkMark {v0 v1 : Value} {Q : Value → Heap → Prop} (S : Stat (hd.heap_39 w.params) mg mb h.get?) (R : Rm A 3) (k : ∀ h' x, Le h.get? h'.get? → InstF h h' x 345 [("marks", v0), ("others", v1)] → Q (.ref x) h') :
    W prog w s A h (call (.ref 345) [v0, v1]) Q := by
  refine w_make (n := 1) (fun x => [("self", .ref x), ("marks", v0), ("others", v1)]) (fun fs => fs = ([("marks", v0), ("others", v1)] : List (Str × Value))) S R (fun h' x fs le I e => k h' x le (e ▸ I)) ?_
  walk_at "ctor"
theorem sp_Scene5 {v0 v1 v2 v3 v4 : Value} {Q : Value → Heap → Prop} (S : Stat (hd.heap_39 w.params) mg mb h.get?) (R : Rm A 3) (k : ∀ h' x, Le h.get? h'.get? → InstF h h' x 112 [("buffer", v0), ("gdef", v1), ("lookups", v2), ("lookup", v3), ("mask", v4), ("depth", .int 0 318)] → Q (.ref x) h') :
    W prog w s A h (call (.ref 112) [v0, v1, v2, v3, v4]) Q := by
  refine w_make (n := 1) (fun x => [("self", .ref x), ("buffer", v0), ("gdef", v1), ("lookups", v2), ("lookup", v3), ("mask", v4), ("depth", .int 0 318)]) (fun fs => fs = ([("buffer", v0), ("gdef", v1), ("lookups", v2), ("lookup", v3), ("mask", v4), ("depth", .int 0 318)] : List (Str × Value))) S R (fun h' x fs le I e => k h' x le (e ▸ I)) ?_
  walk_at "ctor"
theorem sp_Buffer {v0 : Value} {Q : Value → Heap → Prop} (S : Stat (hd.heap_39 w.params) mg mb h.get?) (R : Rm A 3) (k : ∀ h' x, Le h.get? h'.get? → ∀ t1, InstF h h' x 221 [("row", v0), ("is_backward", .bool false), ("last_lig", .int 0 t1)] → Q (.ref x) h') :
    W prog w s A h (call (.ref 221) [v0]) Q := by
  refine w_make (n := 1) (fun x => [("self", .ref x), ("infos", v0), ("is_backward", .bool false)]) (fun fs => ∃ t1, fs = ([("row", v0), ("is_backward", .bool false), ("last_lig", .int 0 t1)] : List (Str × Value))) S R ?_ ?_
  · rintro h' x fs le I ⟨t1, rfl⟩
    exact k h' x le t1 I
  walk_at "ctor"
theorem sp_Gdef {v0 v1 v2 : Value} {Q : Value → Heap → Prop} (S : Stat (hd.heap_39 w.params) mg mb h.get?) (R : Rm A 3) (k : ∀ h' x, Le h.get? h'.get? → ∀ u1 u2, InstF h h' x 552 [("classes", v0), ("attach", v1), ("sets", v2), ("points", u1), ("carets", u2)] → Q (.ref x) h') :
    W prog w s A h (call (.ref 552) [v0, v1, v2]) Q := by
  refine w_make (n := 1) (fun x => [("self", .ref x), ("classes", v0), ("attach", v1), ("sets", v2), ("points", .none), ("carets", .none)]) (fun fs => ∃ u1 u2, fs = ([("classes", v0), ("attach", v1), ("sets", v2), ("points", u1), ("carets", u2)] : List (Str × Value))) S R ?_ ?_
  · rintro h' x fs le I ⟨u1, u2, rfl⟩
    exact k h' x le u1 u2 I
  walk_at "ctor"
theorem sp_Info {v0 v1 v2 : Value} {Q : Value → Heap → Prop} (S : Stat (hd.heap_39 w.params) mg mb h.get?) (R : Rm A 3) (k : ∀ h' x, Le h.get? h'.get? → ∀ t1 t2 t3 t4 t5 t6 t7 t8 t9 t10 t11, InstF h h' x 175 [("code", v0), ("glyph", v1), ("cluster", v2), ("mask", .int 0 t1), ("is_unsafe", .bool false), ("lig_id", .int 0 t2), ("lig_part", .int 0 t3), ("lig_count", .int 0 t4), ("kind", .str "" t5), ("x_advance", .int 0 t6), ("y_advance", .int 0 t7), ("x_offset", .int 0 t8), ("y_offset", .int 0 t9), ("parent", .int 0 t10), ("bond", .str "" t11)] → Q (.ref x) h') :
    W prog w s A h (call (.ref 175) [v0, v1, v2]) Q := by
  refine w_make (n := 1) (fun x => [("self", .ref x), ("code", v0), ("glyph", v1), ("cluster", v2)]) (fun fs => ∃ t1 t2 t3 t4 t5 t6 t7 t8 t9 t10 t11, fs = ([("code", v0), ("glyph", v1), ("cluster", v2), ("mask", .int 0 t1), ("is_unsafe", .bool false), ("lig_id", .int 0 t2), ("lig_part", .int 0 t3), ("lig_count", .int 0 t4), ("kind", .str "" t5), ("x_advance", .int 0 t6), ("y_advance", .int 0 t7), ("x_offset", .int 0 t8), ("y_offset", .int 0 t9), ("parent", .int 0 t10), ("bond", .str "" t11)] : List (Str × Value))) S R ?_ ?_
  · rintro h' x fs le I ⟨t1, t2, t3, t4, t5, t6, t7, t8, t9, t10, t11, rfl⟩
    exact k h' x le t1 t2 t3 t4 t5 t6 t7 t8 t9 t10 t11 I
  walk_at "ctor"
end
/-- the fixed tables -/
noncomputable def cls (g : Int) : Int := if g = 1 ∨ g = 2 then 1 else if g = 3 then 2 else if g = 4 ∨ g = 5 ∨ g = 6 then 3 else if g = 7 then 4 else 0
noncomputable def att (g : Int) : Int := if g = 4 then 1 else if g = 5 then 2 else 0
noncomputable def cbit (n : Int) : Int := if n = 1 then 2 else if n = 2 then 4 else if n = 3 then 8 else 0
noncomputable def TabG (prog : Program) (w : World) (G : PH) (d : Addr) (f : Int → Int) : Prop := (d == sysModules) = false ∧ ∃ kvs, DctG prog w G d kvs ∧ ∀ i z, ∃ t, (valueAt kvs i).getD (.int 0 z) = .int (f i) t
theorem TabG.mono {prog : Program} {w : World} {G G' : PH} {d : Addr} {f : Int → Int} (I : TabG prog w G d f) (k : Le G G') : TabG prog w G' d f := let ⟨a, kvs, b, c⟩ := I; ⟨a, kvs, b.mono k, c⟩
section
variable {prog : Program} {w : World} {s : Shared} {A : Around} {h : Heap} {G : PH} {mg mb : Str → Option Value}
theorem Stat.is {K : Frag} (S : Stat K mg mb G) {a : Addr} {o : Obj} (e : K.lookup a = some o) : G a = some o := by
  obtain ⟨h₀, a, b⟩ := S
  exact b _ _ (a.K _ _ e)
noncomputable def kvsOf : List DictEntry → Option (List (Int × Value))
  | [] => some []
  | ⟨hs, .int i _, v⟩ :: r => if hs = hashInt i then (kvsOf r).map ((i, v) :: ·) else none
  | _ => none
theorem dictOf_lit {n : Nat} : ∀ {es : List DictEntry} {kvs : List (Int × Value)}, kvsOf es = some kvs → (∀ e ∈ es, ∃ k, (intKind prog w).is k e.key = true ∧ e.hash = (intKind prog w).hash k) ∧ Pairs (intKind prog w) es kvs
  | [], kvs, e => by cases e; exact ⟨fun e h => (nomatch h), .nil⟩
  | ⟨hs, k, v⟩ :: r, kvs, e => by
    cases k with
    | int i t =>
      unfold kvsOf at e
      split at e
      · rename_i q
        obtain ⟨l, e1, rfl⟩ := Option.map_eq_some_iff.mp e
        obtain ⟨h1, h2⟩ := dictOf_lit (n := n) e1
        refine ⟨fun x hx => ?_, .cons (intKind_is prog w i t) rfl h2⟩
        rcases List.mem_cons.mp hx with rfl | hx
        · exact ⟨i, intKind_is prog w i t, q⟩
        · exact h1 x hx
      · cases e
    | _ => cases e
theorem isDict_lit {n : Nat} {es : List DictEntry} {kvs : List (Int × Value)} (e : kvsOf es = some kvs) (nd : (kvs.map (·.1)).Nodup) : Obj.IsDictOf (intKind prog w) ⟨.type "dict", none, .dict es.toArray n, #[]⟩ kvs :=
  have D := dictOf_lit (prog := prog) (w := w) (n := n) e
  ⟨es.toArray, n, ⟨rfl, rfl, rfl⟩, rfl, fun e he => D.1 e (by simpa using he), by simpa using D.2, nd⟩
theorem tab_of {K : Frag} (S : Stat K mg mb G) {d : Addr} {es : List DictEntry} {n : Nat} {kvs : List (Int × Value)} (lo : (d == sysModules) = false) (e : K.lookup d = some ⟨.type "dict", none, .dict es.toArray n, #[]⟩) (ek : kvsOf es = some kvs) (nd : (kvs.map (·.1)).Nodup) {f : Int → Int}
    (hf : ∀ i z, ∃ t, (valueAt kvs i).getD (.int 0 z) = .int (f i) t) : TabG prog w G d f := ⟨lo, kvs, ⟨_, S.is e, isDict_lit ek nd⟩, hf⟩
theorem tab_cls (S : Stat (hd.heap_39 w.params) mg mb G) : TabG prog w G 569 cls := by
  refine tab_of S (by decide) (by k_is) rfl (by decide) fun i z => ?_
  by_cases h1 : i = 1
  · subst h1; exact ⟨_, rfl⟩
  by_cases h2 : i = 2
  · subst h2; exact ⟨_, rfl⟩
  by_cases h3 : i = 3
  · subst h3; exact ⟨_, rfl⟩
  by_cases h4 : i = 4
  · subst h4; exact ⟨_, rfl⟩
  by_cases h5 : i = 5
  · subst h5; exact ⟨_, rfl⟩
  by_cases h6 : i = 6
  · subst h6; exact ⟨_, rfl⟩
  by_cases h7 : i = 7
  · subst h7; exact ⟨_, rfl⟩
  exact ⟨z, by simp [valueAt, cls, h1, h2, h3, h4, h5, h6, h7, Ne.symm h1, Ne.symm h2, Ne.symm h3, Ne.symm h4, Ne.symm h5, Ne.symm h6, Ne.symm h7]⟩
theorem tab_att (S : Stat (hd.heap_39 w.params) mg mb G) : TabG prog w G 570 att := by
  refine tab_of S (by decide) (by k_is) rfl (by decide) fun i z => ?_
  by_cases h4 : i = 4
  · subst h4; exact ⟨_, rfl⟩
  by_cases h5 : i = 5
  · subst h5; exact ⟨_, rfl⟩
  exact ⟨z, by simp [valueAt, att, h4, h5, Ne.symm h4, Ne.symm h5]⟩

theorem sp_attach_wanted {flag : Int} {t : Tok} {Q : Value → Heap → Prop} (S : Stat (hd.heap_39 w.params) mg mb h.get?) (R : Rm A 1)
    (k : ∀ h', Le h.get? h'.get? → ∀ t, Q (.int (flag / 256 % 256) t) h') : W prog w s A h (call (.ref 123) [.int flag t]) Q := by
  walk_at "enter"; intro L h₁ _ eE lL F
  repeat' walk_at "z"
  exact k _ (by walk_at "le") _
theorem sp_class_bit {n : Int} {t : Tok} {Q : Value → Heap → Prop} (S : Stat (hd.heap_39 w.params) mg mb h.get?) (R : Rm A 1)
    (k : ∀ h', Le h.get? h'.get? → ∀ t, Q (.int (cbit n) t) h') : W prog w s A h (call (.ref 130) [.int n t]) Q := by
  walk_at "enter"; intro L h₁ _ eE lL F
  repeat' walk_at "z"
  rename_i d h₃ F kd nd lod _ _ _
  refine ⟨_, _, _, _, F, rfl, (by dsimp only [intKeyPairs, List.map]; decide), ?_⟩
  intro o h₃ F ho
  dsimp only [intKeyPairs] at ho
  have I : DctG prog w h₃.get? d _ := ⟨_, F.get (.head _), ho⟩
  repeat' walk_at "z"
  have e : ∀ a b c d : Tok, ∃ u, (valueAt [((1 : Int), Value.int 2 a), (2, Value.int 4 b), (3, Value.int 8 c)] n).getD (.int 0 d) = .int (cbit n) u := by
    intro a b c d
    unfold valueAt cbit
    by_cases h1 : n = 1
    · subst h1; exact ⟨_, rfl⟩
    by_cases h2 : n = 2
    · subst h2; exact ⟨_, rfl⟩
    by_cases h3 : n = 3
    · subst h3; exact ⟨_, rfl⟩
    exact ⟨d, by simp [h1, h2, h3, Ne.symm h1, Ne.symm h2, Ne.symm h3]⟩
  obtain ⟨u, e⟩ := e _ _ _ _
  show Q (rv (.ret _)) _
  rw [rv, e]
  exact k _ F.keep _
theorem sp_class_of {x d : Addr} {f : Int → Int} {g : Int} {t : Tok} {Q : Value → Heap → Prop} (S : Stat (hd.heap_39 w.params) mg mb h.get?) (R : Rm A 1) (I : InstG h.get? x 462 [("classes", .ref d)]) (T : TabG prog w h.get? d f)
    (k : ∀ h', Le h.get? h'.get? → ∀ t, Q (.int (f g) t) h') : W prog w s A h (call (.ref 440) [.ref x, .int g t]) Q := by
  obtain ⟨lo, kvs, D, hf⟩ := T
  walk_at "enter"; intro L h₁ _ eE lL F
  repeat' walk_at "z"
  obtain ⟨u, e⟩ := hf g _
  show Q (rv (.ret _)) _
  rw [rv, e]
  exact k _ (by walk_at "le") _
end
/-- what a glyph of the row is -/
structure Row where
  g : Int
  i : Int
  p : Int
  k : Str
  c : Int
noncomputable def inSet (g : Int) : Bool := g == 4 || g == 6
noncomputable def wanted (flag : Int) : Int := flag / 256 % 256
/-- is_ignored -/
noncomputable def ign (flag g : Int) : Bool :=
  if Builtin.bitAnd flag (cbit (cls g)) ≠ 0 then true
  else if cls g ≠ 3 then false
  else if Builtin.bitAnd flag 16 ≠ 0 then !inSet g
  else decide (0 < wanted flag) && decide (att g ≠ wanted flag)
noncomputable def infoFs (code mask un lc xa ya xo yo pa bo : Value) (t1 t2 t3 t4 t5 : Tok) (r : Row) : List (Str × Value) :=
  [("code", code), ("glyph", .int r.g t1), ("cluster", .int r.c t2), ("mask", mask), ("is_unsafe", un), ("lig_id", .int r.i t3), ("lig_part", .int r.p t4), ("lig_count", lc), ("kind", .str r.k t5),
    ("x_advance", xa), ("y_advance", ya), ("x_offset", xo), ("y_offset", yo), ("parent", pa), ("bond", bo)]
noncomputable def InfoG (G : PH) (v : Value) (r : Row) : Prop := ∃ x code mask un lc xa ya xo yo pa bo t1 t2 t3 t4 t5, v = .ref x ∧ InstG G x 175 (infoFs code mask un lc xa ya xo yo pa bo t1 t2 t3 t4 t5 r)
theorem InfoG.mono {G G' : PH} {v : Value} {r : Row} (I : InfoG G v r) (k : Le G G') : InfoG G' v r := by
  obtain ⟨x, c1, c2, c3, c4, c5, c6, c7, c8, c9, c10, t1, t2, t3, t4, t5, e, i⟩ := I
  exact ⟨x, c1, c2, c3, c4, c5, c6, c7, c8, c9, c10, t1, t2, t3, t4, t5, e, i.mono k⟩
noncomputable def GdefG (prog : Program) (w : World) (G : PH) (gd : Addr) : Prop := ∃ c a sl cov v1 v2, InstG G gd 552 [("classes", .ref c), ("attach", .ref a), ("sets", .ref sl), ("points", v1), ("carets", v2)] ∧
  InstG G c 462 [("classes", .ref 569)] ∧ InstG G a 462 [("classes", .ref 570)] ∧ LstG G sl [.ref cov] ∧ InstG G cov 504 [("glyphs", .ref 571)]
theorem GdefG.mono {prog : Program} {w : World} {G G' : PH} {gd : Addr} (I : GdefG prog w G gd) (k : Le G G') : GdefG prog w G' gd := by
  obtain ⟨c, a, sl, cov, v1, v2, h1, h2, h3, h4, h5⟩ := I
  exact ⟨c, a, sl, cov, v1, v2, h1.mono k, h2.mono k, h3.mono k, h4.mono k, h5.mono k⟩
section
variable {prog : Program} {w : World} {s : Shared} {A : Around} {h : Heap} {G : PH} {mg mb : Str → Option Value}
theorem cls_range (g : Int) : 0 ≤ cls g ∧ cls g ≤ 4 := by unfold cls; split <;> (try split) <;> (try split) <;> (try split) <;> walk_at "om"
theorem set_tup (S : Stat (hd.heap_39 w.params) mg mb G) : TupG G 571 [.int 4 1021, .int 6 1022] := TupG.of (S.is (by k_is))
theorem sp_glyph_class {gd : Addr} {g : Int} {t : Tok} {Q : Value → Heap → Prop} (S : Stat (hd.heap_39 w.params) mg mb h.get?) (R : Rm A 2) (I : GdefG prog w h.get? gd)
    (k : ∀ h', Le h.get? h'.get? → ∀ t, Q (.int (cls g) t) h') : W prog w s A h (call (.ref 530) [.ref gd, .int g t]) Q := by
  obtain ⟨c, a, sl, cov, v1, v2, h1, h2, h3, h4, h5⟩ := I
  walk_at "enter"; intro L h₁ _ eE lL F
  repeat' walk_at "z"
  refine sp_class_of (by walk_at "st") (by walk_at "rm") (h2.mono (by walk_at "le")) ((tab_cls S).mono (by walk_at "le")) ?_
  walk_at "back"; intro t'
  repeat' walk_at "z"
  all_goals (have := cls_range g)
  · exact k _ (by walk_at "le") _
  · refine fin_int (k _ (by walk_at "le") _) (by walk_at "om")
  · refine fin_int (k _ (by walk_at "le") _) (by walk_at "om")
theorem sp_attach_class {gd : Addr} {g : Int} {t : Tok} {Q : Value → Heap → Prop} (S : Stat (hd.heap_39 w.params) mg mb h.get?) (R : Rm A 2) (I : GdefG prog w h.get? gd)
    (k : ∀ h', Le h.get? h'.get? → ∀ t, Q (.int (att g) t) h') : W prog w s A h (call (.ref 537) [.ref gd, .int g t]) Q := by
  obtain ⟨c, a, sl, cov, v1, v2, h1, h2, h3, h4, h5⟩ := I
  walk_at "enter"; intro L h₁ _ eE lL F
  repeat' walk_at "z"
  refine sp_class_of (by walk_at "st") (by walk_at "rm") (h3.mono (by walk_at "le")) ((tab_att S).mono (by walk_at "le")) ?_
  walk_at "back"; intro t'
  exact k _ (by walk_at "le") _
theorem sp_index {x : Addr} {g : Int} {t : Tok} {Q : Value → Heap → Prop} (S : Stat (hd.heap_39 w.params) mg mb h.get?) (R : Rm A 2) (I : InstG h.get? x 504 [("glyphs", .ref 571)])
    (k : ∀ h', Le h.get? h'.get? → ∀ i t, (0 ≤ i ↔ inSet g = true) → Q (.int i t) h') : W prog w s A h (call (.ref 487) [.ref x, .int g t]) Q := by
  have T := set_tup S
  walk_at "enter"; intro L h₁ _ eE lL F
  repeat' walk_at "z"
  rename Fm _ _ _ _ _ => F
  refine w_while (fun n h' => ∃ low high : Int, ∃ t1 t2 : Tok, Fm h.get? L [] h' [("low", .int low t1), ("high", .int high t2), ("glyph", .int g t), ("self", .ref x)] ∧ n = (high - low).toNat ∧ 0 ≤ low ∧ low ≤ high ∧ high ≤ 2 ∧
    (low ≥ 1 → 4 < g) ∧ (low ≥ 2 → 6 < g) ∧ (high ≤ 1 → g ≤ 6) ∧ (high ≤ 0 → g ≤ 4)) ?_ 2 ?_
  · rintro n h₂ ⟨low, high, t1, t2, F, rfl, b0, b1, b2, c1, c2, c3, c4⟩
    repeat' walk_at "z"
    · obtain ⟨y, u, e, hy⟩ : ∃ y u, [Value.int 4 1021, Value.int 6 1022][((low + high) / 2).toNat]? = some (.int y u) ∧ ((low + high) / 2 = 0 ∧ y = 4 ∨ (low + high) / 2 = 1 ∧ y = 6) := by
        have : (low + high) / 2 = 0 ∨ (low + high) / 2 = 1 := by walk_at "om"
        rcases this with q | q
        · exact ⟨4, _, by rw [q]; rfl, .inl ⟨q, rfl⟩⟩
        · exact ⟨6, _, by rw [q]; rfl, .inr ⟨q, rfl⟩⟩
      refine w_subTup T (by walk_at "le") (by walk_at "om") (by walk_at "om") e ?_
      repeat' walk_at "z"
      · rename Fm _ _ _ _ _ => F
        refine ⟨_, ?_, _, _, _, _, F.to _ ⟨rfl, rfl, rfl, rfl, trivial⟩, rfl, by walk_at "om", by walk_at "om", by walk_at "om", by walk_at "om", by walk_at "om", by walk_at "om", by walk_at "om"⟩; walk_at "om"
      · rename Fm _ _ _ _ _ => F
        refine ⟨_, ?_, _, _, _, _, F.to _ ⟨rfl, rfl, rfl, rfl, trivial⟩, rfl, by walk_at "om", by walk_at "om", by walk_at "om", by walk_at "om", by walk_at "om", by walk_at "om", by walk_at "om"⟩; walk_at "om"
    · have : low = 0 ∨ low = 1 := by simp at *; walk_at "om"
      obtain ⟨y, u, e, hy⟩ : ∃ y u, [Value.int 4 1021, Value.int 6 1022][low.toNat]? = some (.int y u) ∧ (low = 0 ∧ y = 4 ∨ low = 1 ∧ y = 6) := by
        rcases this with q | q
        · exact ⟨4, _, by rw [q]; rfl, .inl ⟨q, rfl⟩⟩
        · exact ⟨6, _, by rw [q]; rfl, .inr ⟨q, rfl⟩⟩
      refine w_subTup T (by walk_at "le") (by walk_at "om") (by walk_at "om") e ?_
      repeat' walk_at "z"
      · exact k _ (by walk_at "le") _ _ (by simp [inSet]; walk_at "om")
      · exact k _ (by walk_at "le") _ _ (by simp [inSet]; walk_at "om")
    · exact k _ (by walk_at "le") _ _ (by simp [inSet] at *; walk_at "om")
  · exact ⟨0, 2, _, _, F.to _ ⟨rfl, rfl, rfl, rfl, trivial⟩, rfl, by walk_at "om", by walk_at "om", by walk_at "om", by walk_at "om", by walk_at "om", by walk_at "om", by walk_at "om"⟩
theorem sp_has {x : Addr} {g : Int} {t : Tok} {Q : Value → Heap → Prop} (S : Stat (hd.heap_39 w.params) mg mb h.get?) (R : Rm A 3) (I : InstG h.get? x 504 [("glyphs", .ref 571)])
    (k : ∀ h', Le h.get? h'.get? → Q (.bool (inSet g)) h') : W prog w s A h (call (.ref 494) [.ref x, .int g t]) Q := by
  walk_at "enter"; intro L h₁ _ eE lL F
  repeat' walk_at "z"
  refine sp_index (by walk_at "st") (by walk_at "rm") (I.mono (by walk_at "le")) ?_
  walk_at "back"; intro i t' hi
  repeat' walk_at "z"
  refine fin_bool (k _ (by walk_at "le")) ?_
  rw [Bool.eq_iff_iff, decide_eq_true_eq]; exact hi
theorem sp_is_in_set {gd : Addr} {g : Int} {t t' : Tok} {Q : Value → Heap → Prop} (S : Stat (hd.heap_39 w.params) mg mb h.get?) (R : Rm A 4) (I : GdefG prog w h.get? gd)
    (k : ∀ h', Le h.get? h'.get? → Q (.bool (inSet g)) h') : W prog w s A h (call (.ref 544) [.ref gd, .int 0 t', .int g t]) Q := by
  obtain ⟨c, a, sl, cov, v1, v2, h1, h2, h3, h4, h5⟩ := I
  walk_at "enter"; intro L h₁ _ eE lL F
  repeat' walk_at "z"
  · refine w_subList h4 (by walk_at "le") (by walk_at "om") (by walk_at "om") rfl ?_
    repeat' walk_at "z"
    refine sp_has (by walk_at "st") (by walk_at "rm") (h5.mono (by walk_at "le")) ?_
    walk_at "back"
    exact k _ (by walk_at "le")
  · simp at *
theorem sp_is_ignored {gd lk : Addr} {g flag : Int} {t t1 t2 : Tok} {kd tb : Value} {Q : Value → Heap → Prop} (S : Stat (hd.heap_39 w.params) mg mb h.get?) (R : Rm A 5) (I : GdefG prog w h.get? gd)
    (J : InstG h.get? lk 90 [("kind", kd), ("flag", .int flag t1), ("mark_set", .int 0 t2), ("tables", tb)])
    (k : ∀ h', Le h.get? h'.get? → Q (.bool (ign flag g)) h') : W prog w s A h (call (.ref 137) [.ref gd, .ref lk, .int g t]) Q := by
  have I' := I
  obtain ⟨c, a, sl, cov, v1, v2, h1, h2, h3, h4, h5⟩ := I
  walk_at "enter"; intro L h₁ _ eE lL F
  repeat' walk_at "z"
  refine sp_glyph_class (by walk_at "st") (by walk_at "rm") (I'.mono (by walk_at "le")) ?_
  walk_at "back"; intro t'
  repeat' walk_at "z"
  refine sp_class_bit (by walk_at "st") (by walk_at "rm") ?_
  walk_at "back"; intro t'
  repeat' walk_at "z"
  · refine fin_bool (k _ (by walk_at "le")) ?_
    simp [ign, *]
  · refine fin_bool (k _ (by walk_at "le")) ?_
    simp [ign, *]
  · refine sp_is_in_set (by walk_at "st") (by walk_at "rm") (I'.mono (by walk_at "le")) ?_
    walk_at "back"
    repeat' walk_at "z"
    refine fin_bool (k _ (by walk_at "le")) ?_
    simp [ign, *]
  · refine sp_attach_wanted (by walk_at "st") (by walk_at "rm") ?_
    walk_at "back"; intro t'
    repeat' walk_at "z"
    · refine sp_attach_class (by walk_at "st") (by walk_at "rm") (I'.mono (by walk_at "le")) ?_
      walk_at "back"; intro t'
      repeat' walk_at "z"
      refine fin_bool (k _ (by walk_at "le")) ?_
      simp [ign, wanted, *]
      by_cases e : att g = flag / 256 % 256 <;> simp [e]
    · refine fin_bool (k _ (by walk_at "le")) ?_
      simp [ign, wanted, *]
end
/-- a scene: its buffer's row of infos, its lookup's flag -/
noncomputable def ScnG (prog : Program) (w : World) (G : PH) (sc b row : Addr) (flag : Int) : Prop := ∃ gd ls lk mk dp kd tb bw ll tm td tk t1 t2,
  InstG G sc 112 [("buffer", .ref b), ("gdef", .ref gd), ("lookups", .ref ls), ("lookup", .ref lk), ("mask", .int mk tm), ("depth", .int dp td)] ∧
  InstG G b 221 [("row", .ref row), ("is_backward", bw), ("last_lig", ll)] ∧ InstG G lk 90 [("kind", .str kd tk), ("flag", .int flag t1), ("mark_set", .int 0 t2), ("tables", tb)] ∧ GdefG prog w G gd
theorem ScnG.mono {prog : Program} {w : World} {G G' : PH} {sc b row : Addr} {flag : Int} (I : ScnG prog w G sc b row flag) (k : Le G G') : ScnG prog w G' sc b row flag := by
  obtain ⟨gd, ls, lk, mk, dp, kd, tb, bw, ll, tm, td, tk, t1, t2, h1, h2, h3, h4⟩ := I
  exact ⟨gd, ls, lk, mk, dp, kd, tb, bw, ll, tm, td, tk, t1, t2, h1.mono k, h2.mono k, h3.mono k, h4.mono k⟩
/-- a list of infos -/
noncomputable def RowsG (G : PH) (row : Addr) (rs : List Row) : Prop := ∃ vs, LstG G row vs ∧ Paired (InfoG G) vs rs
theorem RowsG.mono {G G' : PH} {row : Addr} {rs : List Row} (I : RowsG G row rs) (k : Le G G') : RowsG G' row rs := let ⟨vs, a, b⟩ := I; ⟨vs, a.mono k, prd_mono b fun _ _ i => i.mono k⟩
section
variable {prog : Program} {w : World} {s : Shared} {A : Around} {h : Heap} {G : PH} {mg mb : Str → Option Value} {env : Env}
theorem w_rowAt {G' : PH} {e i : Expr} {row : Addr} {rs : List Row} {j : Int} {t : Tok} {r : Row} {Q : Value → Heap → Prop} (I : RowsG G' row rs) (kG : Le G' h.get?) (h0 : 0 ≤ j) (hn : rs.length ≤ 100) (hr : rs[j.toNat]? = some r)
    (k : ∀ x, InfoG G' (.ref x) r → Q (.ref x) h)
    (hs : subscripted i false (.ref row) (.int j t) = operate [.ref row, .int j t] (getItem (.ref row) (.int j t)) := by with_unfolding_all rfl) : W prog w s A h (subscriptTail e i (.ref row) (.int j t)) Q := by
  obtain ⟨vs, I, P⟩ := I
  obtain ⟨v, e, J⟩ := prd_get P hr
  have : j.toNat < rs.length := (List.getElem?_eq_some_iff.mp hr).1
  refine w_subList I kG h0 (by walk_at "om") e ?_ hs
  obtain ⟨x, rest⟩ := id J
  obtain ⟨_, _, _, _, _, _, _, _, _, _, _, _, _, _, _, rfl, _⟩ := rest
  exact k x J
theorem sp_passes {sc b row : Addr} {flag i : Int} {t : Tok} {rs : List Row} {r : Row} {Q : Value → Heap → Prop} (S : Stat (hd.heap_39 w.params) mg mb h.get?) (R : Rm A 6) (I : ScnG prog w h.get? sc b row flag) (J : RowsG h.get? row rs)
    (h0 : 0 ≤ i) (hn : rs.length ≤ 100) (hr : rs[i.toNat]? = some r)
    (k : ∀ h', Le h.get? h'.get? → Q (.bool (ign flag r.g)) h') : W prog w s A h (call (.ref 144) [.ref sc, .int i t]) Q := by
  obtain ⟨gd, ls, lk, mk, dp, kd, tb, bw, ll, tm, td, tk, t1, t2, h1, h2, h3, h4⟩ := I
  walk_at "enter"; intro L h₁ _ eE lL F
  repeat' walk_at "z"
  refine w_rowAt J (by walk_at "le") h0 hn hr ?_
  rintro x ⟨x', code, mask, un, lc, xa, ya, xo, yo, pa, bo, u1, u2, u3, u4, u5, e, ii⟩
  cases e
  unfold infoFs at ii
  repeat' walk_at "z"
  refine sp_is_ignored (by walk_at "st") (by walk_at "rm") (h4.mono (by walk_at "le")) (h3.mono (by walk_at "le")) ?_
  walk_at "back"
  exact k _ (by walk_at "le")
end
section
variable {prog : Program} {w : World} {s : Shared} {A : Around} {h : Heap} {G : PH} {mg mb : Str → Option Value}
theorem sp_scene_with {sc b gd ls lk : Addr} {mk dp : Int} {kd : Str} {tb : Value} {tm td tk : Tok} {vf vm : Value} {flag ms : Int} {t1 t2 : Tok} {Q : Value → Heap → Prop} (S : Stat (hd.heap_39 w.params) mg mb h.get?) (R : Rm A 5)
    (h1 : InstG h.get? sc 112 [("buffer", .ref b), ("gdef", .ref gd), ("lookups", .ref ls), ("lookup", .ref lk), ("mask", .int mk tm), ("depth", .int dp td)])
    (h3 : InstG h.get? lk 90 [("kind", .str kd tk), ("flag", vf), ("mark_set", vm), ("tables", tb)])
    (k : ∀ h', Le h.get? h'.get? → ∀ sc' lk' tb', InstF h h' lk' 90 [("kind", .str kd tk), ("flag", .int flag t1), ("mark_set", .int ms t2), ("tables", tb')] →
      InstF h h' sc' 112 [("buffer", .ref b), ("gdef", .ref gd), ("lookups", .ref ls), ("lookup", .ref lk'), ("mask", .int mk tm), ("depth", .int dp td)] → Q (.ref sc') h') :
    W prog w s A h (call (.ref 356) [.ref sc, .int flag t1, .int ms t2]) Q := by
  walk_at "enter"; intro L h₁ k₁ eE lL F
  repeat' walk_at "z"
  rename Fm _ _ _ _ _ => F
  refine sp_Lookup (by walk_at "st") (by walk_at "rm") ?_
  intro h₃ lk' k₃ I
  refine I.stdK F k₃ ?_
  intro G1 le1 F I1 J1
  replace S := S.mono le1
  have hh := F.keep
  have J1 := fun h'' => J1 h h'' (Fm.keep (by assumption))
  repeat' walk_at "z"
  rename Fm _ _ _ _ _ => F
  refine sp_Scene (by walk_at "st") (by walk_at "rm") ?_
  intro h₄ sc' k₄ I
  refine I.stdK F k₄ ?_
  intro G2 le2 F I2 J2
  exact k _ (le1.trans (le2.trans F.keep)) _ _ _ (J1 _ (le2.trans F.keep)) (J2 h _ (le1.trans (Fm.keep (by assumption))) F.keep)
theorem sp_is_mark_at {sc b row : Addr} {flag i : Int} {t : Tok} {rs : List Row} {r : Row} {Q : Value → Heap → Prop} (S : Stat (hd.heap_39 w.params) mg mb h.get?) (R : Rm A 6) (I : ScnG prog w h.get? sc b row flag) (J : RowsG h.get? row rs)
    (h0 : 0 ≤ i) (hn : rs.length ≤ 100) (hr : rs[i.toNat]? = some r)
    (k : ∀ h', Le h.get? h'.get? → Q (.bool (decide (cls r.g = 3))) h') : W prog w s A h (call (.ref 363) [.ref sc, .int i t]) Q := by
  obtain ⟨gd, ls, lk, mk, dp, kd, tb, bw, ll, tm, td, tk, t1, t2, h1, h2, h3, h4⟩ := I
  obtain ⟨c, a, sl, cov, v1, v2, g1, g2, g3, g4, g5⟩ := id h4
  walk_at "enter"; intro L h₁ _ eE lL F
  repeat' walk_at "z"
  refine w_rowAt J (by walk_at "le") h0 hn hr ?_
  rintro x ⟨x', code, mask, un, lc, xa, ya, xo, yo, pa, bo, u1, u2, u3, u4, u5, e, ii⟩
  cases e
  unfold infoFs at ii
  repeat' walk_at "z"
  refine sp_glyph_class (by walk_at "st") (by walk_at "rm") (h4.mono (by walk_at "le")) ?_
  walk_at "back"; intro t'
  repeat' walk_at "z"
  exact k _ (by walk_at "le")
/-- the place before n that serves, nearest first -/
noncomputable def back (P : Row → Bool) (rs : List Row) : Nat → Int
  | 0 => -1
  | n + 1 => if (match rs[n]? with | some r => P r | none => false) = true then n else back P rs n
noncomputable def around (k : Str) : Bool := (["zwj", "zwnj", "hidden"] : List Str).any (· == k)
noncomputable def pas (flag : Int) (r : Row) : Bool := !ign flag r.g && !around r.k
theorem around_tup (S : Stat (hd.heap_39 w.params) mg mb G) : TupG G 231 [.str "zwj" 506, .str "zwnj" 507, .str "hidden" 508] := TupG.of (S.is (by k_is))
theorem back_lt (P : Row → Bool) (rs : List Row) : ∀ n : Nat, -1 ≤ back P rs n ∧ back P rs n < n
  | 0 => by simp [back]
  | n + 1 => by
    have := back_lt P rs n
    unfold back; split <;> split <;> walk_at "om"
theorem sp_neighbour {sc b row : Addr} {flag i : Int} {t t' : Tok} {rs : List Row} {Q : Value → Heap → Prop} (S : Stat (hd.heap_39 w.params) mg mb h.get?) (R : Rm A 7) (I : ScnG prog w h.get? sc b row flag) (J : RowsG h.get? row rs)
    (h0 : 0 ≤ i) (hi : i ≤ rs.length) (hn : rs.length ≤ 100)
    (k : ∀ h', Le h.get? h'.get? → ∀ t, Q (.int (back (pas flag) rs i.toNat) t) h') : W prog w s A h (call (.ref 238) [.ref sc, .int i t, .int (-1) t']) Q := by
  have I' := I
  obtain ⟨gd, ls, lk, mk, dp, kd, tb, bw, ll, tm, td, tk, t1, t2, h1, h2, h3, h4⟩ := I
  obtain ⟨vs, J1, J2⟩ := id J
  have J3 := J2.length
  have T := around_tup S
  walk_at "enter"; intro L h₁ _ eE lL F
  repeat' walk_at "z"
  rename Fm _ _ _ _ _ => F
  refine w_while (fun n h' => ∃ t1, Fm h.get? L [] h' [("here", .int ((n : Int) - 1) t1), ("step", .int (-1) t'), ("scene", .ref sc)] ∧ (n : Int) ≤ rs.length ∧ back (pas flag) rs n = back (pas flag) rs i.toNat) ?_ i.toNat ?_
  · rintro n h₂ ⟨u1, F, b1, b2⟩
    rcases n with _ | m
    · repeat' walk_at "z"
      all_goals try (exfalso; walk_at "om"; done)
      all_goals try (exfalso; walk_at "om"; done)
      · refine fin_int (k _ (by walk_at "le") _) ?_
        rw [← b2]; rfl
    have em : ((m + 1 : Nat) : Int) - 1 = m := by walk_at "om"
    rw [em] at F
    have hm : m < rs.length := by walk_at "om"
    have er : rs[(m : Int).toNat]? = some rs[m] := by simp [hm]
    repeat' walk_at "z"
    · refine sp_passes (by walk_at "st") (by walk_at "rm") (I'.mono (by walk_at "le")) (J.mono (by walk_at "le")) (by walk_at "om") hn er ?_
      walk_at "back"
      have bk : ∀ b, pas flag rs[m] = b → back (pas flag) rs (m + 1) = if b = true then (m : Int) else back (pas flag) rs m := by
        intro b e
        rw [back]; simp [hm, e]
      repeat' walk_at "z"
      · refine w_rowAt J (by walk_at "le") (by walk_at "om") hn er ?_
        rintro x ⟨x', code, mask, un, lc, xa, ya, xo, yo, pa, bo, v1, v2, v3, v4, v5, e, ii⟩
        cases e
        unfold infoFs at ii
        repeat' walk_at "z"
        · refine fin_int (k _ (by walk_at "le") _) ?_
          rw [← b2, bk true (by unfold pas around; simp only [*, Bool.not_false, Bool.not_true, Bool.and_self, Bool.and_false, Bool.false_and])]; simp
        · rename Fm _ _ _ _ _ => F
          refine ⟨m, by walk_at "om", _, F.to [("here", .int ((m : Int) - 1) _), ("step", .int (-1) t'), ("scene", .ref sc)] ⟨rfl, rfl, rfl, trivial⟩, by walk_at "om", ?_⟩
          rw [← b2, bk false (by unfold pas around; simp only [*, Bool.not_false, Bool.not_true, Bool.and_self, Bool.and_false, Bool.false_and])]; simp
      · rename Fm _ _ _ _ _ => F
        refine ⟨m, by walk_at "om", _, F.to [("here", .int ((m : Int) - 1) _), ("step", .int (-1) t'), ("scene", .ref sc)] ⟨rfl, rfl, rfl, trivial⟩, by walk_at "om", ?_⟩
        rw [← b2, bk false (by unfold pas around; simp only [*, Bool.not_false, Bool.not_true, Bool.and_self, Bool.and_false, Bool.false_and])]; simp
    all_goals try (exfalso; walk_at "om"; done)
    all_goals try (exfalso; walk_at "om"; done)
  · exact ⟨_, F.to [("here", .int ((i.toNat : Int) - 1) _), ("step", .int (-1) t'), ("scene", .ref sc)] ⟨by rw [Int.toNat_of_nonneg h0]; rfl, rfl, rfl, trivial⟩, by walk_at "om", rfl⟩
end
noncomputable def later (rs : List Row) (n : Nat) : Bool := match rs[n]? with
  | none => false
  | some r => if n = 0 ∨ r.i ≠ 0 ∨ r.p = 0 then false else match rs[n - 1]? with
    | none => false
    | some a => if cls a.g = 3 then false else decide (a.i = 0) && decide (a.p + 1 = r.p)
noncomputable def baseAt (P : Row → Bool) (rs : List Row) (n : Nat) : Int :=
  if hj : 0 ≤ back P rs n ∧ later rs (back P rs n).toNat = true then baseAt P rs (back P rs n).toNat else back P rs n
termination_by n
decreasing_by have := back_lt P rs n; walk_at "om"
theorem baseAt_lt (P : Row → Bool) (rs : List Row) (n : Nat) : -1 ≤ baseAt P rs n ∧ baseAt P rs n < n := by
  induction n using Nat.strongRecOn with
  | _ n ih =>
    have h := back_lt P rs n
    rw [baseAt]
    split
    · rename_i hj
      have := ih _ (show (back P rs n).toNat < n by walk_at "om")
      walk_at "om"
    · walk_at "om"
section
variable {prog : Program} {w : World} {s : Shared} {A : Around} {h : Heap} {G : PH} {mg mb : Str → Option Value}
theorem sp_before_at {sc b row : Addr} {flag i : Int} {t : Tok} {rs : List Row} {Q : Value → Heap → Prop} (S : Stat (hd.heap_39 w.params) mg mb h.get?) (R : Rm A 8) (I : ScnG prog w h.get? sc b row flag) (J : RowsG h.get? row rs)
    (h0 : 0 ≤ i) (hi : i ≤ rs.length) (hn : rs.length ≤ 100)
    (k : ∀ h', Le h.get? h'.get? → ∀ t, Q (.int (back (pas flag) rs i.toNat) t) h') : W prog w s A h (call (.ref 245) [.ref sc, .int i t]) Q := by
  walk_at "enter"; intro L h₁ _ eE lL F
  repeat' walk_at "z"
  refine sp_neighbour (by walk_at "st") (by walk_at "rm") (I.mono (by walk_at "le")) (J.mono (by walk_at "le")) h0 hi hn ?_
  walk_at "back"; intro t'
  exact k _ (by walk_at "le") _
theorem sp_is_later_part {sc b row : Addr} {flag i : Int} {t : Tok} {rs : List Row} {Q : Value → Heap → Prop} (S : Stat (hd.heap_39 w.params) mg mb h.get?) (R : Rm A 7) (I : ScnG prog w h.get? sc b row flag) (J : RowsG h.get? row rs)
    (h0 : 0 ≤ i) (hi : i < rs.length) (hn : rs.length ≤ 100)
    (k : ∀ h', Le h.get? h'.get? → Q (.bool (later rs i.toNat)) h') : W prog w s A h (call (.ref 370) [.ref sc, .int i t]) Q := by
  have I' := I
  obtain ⟨gd, ls, lk, mk, dp, kd, tb, bw, ll, tm, td, tk, t1, t2, h1, h2, h3, h4⟩ := I
  obtain ⟨n, rfl⟩ : ∃ n : Nat, i = n := ⟨i.toNat, by walk_at "om"⟩
  have hm : n < rs.length := by walk_at "om"
  have er : rs[(n : Int).toNat]? = some rs[n] := by simp [hm]
  have er' : rs[n]? = some rs[n] := by simp [hm]
  walk_at "enter"; intro L h₁ _ eE lL F
  repeat' walk_at "z"
  refine w_rowAt J (by walk_at "le") (by walk_at "om") hn er ?_
  rintro x ⟨x', code, mask, un, lc, xa, ya, xo, yo, pa, bo, v1, v2, v3, v4, v5, e, ii⟩
  cases e
  unfold infoFs at ii
  repeat' walk_at "z"
  · refine fin_bool (k _ (by walk_at "le")) ?_
    simp [later, er']; walk_at "om"
  · refine fin_bool (k _ (by walk_at "le")) ?_
    simp [later, er']; walk_at "om"
  · refine fin_bool (k _ (by walk_at "le")) ?_
    simp [later, er']; walk_at "om"
  · have hm2 : n - 1 < rs.length := by walk_at "om"
    have er2 : rs[((n : Int) - 1).toNat]? = some rs[n - 1] := by
      rw [show ((n : Int) - 1).toNat = n - 1 by walk_at "om"]; simp [hm2]
    have er3 : rs[n - 1]? = some rs[n - 1] := by simp [hm2]
    refine sp_is_mark_at (by walk_at "st") (by walk_at "rm") (I'.mono (by walk_at "le")) (J.mono (by walk_at "le")) (by walk_at "om") hn er2 ?_
    walk_at "back"
    repeat' walk_at "z"
    · refine fin_bool (k _ (by walk_at "le")) ?_
      simp [later, er', er3, *]
    · refine w_rowAt J (by walk_at "le") (by walk_at "om") hn er2 ?_
      rintro y ⟨x', code, mask, un, lc, xa, ya, xo, yo, pa, bo, u1, u2, u3, u4, u5, e, jj⟩
      cases e
      unfold infoFs at jj
      repeat' walk_at "z"
      all_goals (refine fin_bool (k _ (by walk_at "le")) ?_)
      all_goals (simp only [Int.toNat_natCast, later]; rw [er']; dsimp only; rw [if_neg (by walk_at "om"), er3]; simp [*])
theorem sp_base_ahead {sc b row : Addr} {flag i : Int} {t : Tok} {rs : List Row} {Q : Value → Heap → Prop} (S : Stat (hd.heap_39 w.params) mg mb h.get?) (R : Rm A 9) (I : ScnG prog w h.get? sc b row flag) (J : RowsG h.get? row rs)
    (h0 : 0 ≤ i) (hi : i ≤ rs.length) (hn : rs.length ≤ 100)
    (k : ∀ h', Le h.get? h'.get? → ∀ t, Q (.int (baseAt (pas 8) rs i.toNat) t) h') : W prog w s A h (call (.ref 377) [.ref sc, .int i t]) Q := by
  have I' := I
  obtain ⟨gd, ls, lk, mk, dp, kd, tb, bw, ll, tm, td, tk, t1, t2, h1, h2, h3, h4⟩ := I
  walk_at "enter"; intro L h₁ _ eE lL F
  repeat' walk_at "z"
  refine sp_scene_with (by walk_at "st") (by walk_at "rm") (h1.mono (by walk_at "le")) (h3.mono (by walk_at "le")) ?_
  intro h₂ k₂ sc' lk' tb' IL IS
  obtain ⟨G1, le1, F1, q⟩ := (F.keeps k₂).stand
  have IL := IL.stand F q
  have IS := IS.stand F q
  have NS : ScnG prog w G1 sc' b row 8 := ⟨gd, ls, lk', mk, dp, kd, tb', bw, ll, tm, td, tk, _, _, IS, h2.mono le1, IL, h4.mono le1⟩
  replace J := J.mono le1
  replace I' := I'.mono le1
  replace S := S.mono le1
  clear F IL IS
  repeat' walk_at "z"
  refine sp_before_at (by walk_at "st") (by walk_at "rm") (NS.mono (by walk_at "le")) (J.mono (by walk_at "le")) h0 hi hn ?_
  walk_at "back"; intro t'
  repeat' walk_at "z"
  rename Fm _ _ _ _ _ => F
  refine w_while (fun n h' => ∃ j : Int, ∃ t1, n = (j + 1).toNat ∧ Fm G1 L [] h' [("here", .int j t1), ("looking", .ref sc'), ("scene", .ref sc)] ∧ -1 ≤ j ∧ j < rs.length ∧
    (if 0 ≤ j ∧ later rs j.toNat = true then baseAt (pas 8) rs j.toNat else j) = baseAt (pas 8) rs i.toNat) ?_ _ ⟨_, _, rfl, F.to _ ⟨rfl, rfl, rfl, trivial⟩, ?_, ?_, ?_⟩
  · rintro n h₂ ⟨j, u1, rfl, F, b1, b2, b3⟩
    repeat' walk_at "z"
    · refine sp_is_later_part (by walk_at "st") (by walk_at "rm") (I'.mono (by walk_at "le")) (J.mono (by walk_at "le")) (by assumption) b2 hn ?_
      walk_at "back"
      repeat' walk_at "z"
      · have hb0 : 0 ≤ j := by assumption
        rw [if_pos ⟨hb0, by assumption⟩] at b3
        have lt := back_lt (pas 8) rs j.toNat
        refine sp_before_at (by walk_at "st") (by walk_at "rm") (NS.mono (by walk_at "le")) (J.mono (by walk_at "le")) hb0 (by walk_at "om") hn ?_
        walk_at "back"; intro t'
        repeat' walk_at "z"
        rename Fm _ _ _ _ _ => F
        refine ⟨_, ?_, _, _, rfl, F.to _ ⟨rfl, rfl, rfl, trivial⟩, by walk_at "om", by walk_at "om", ?_⟩
        · walk_at "om"
        · rw [← b3]; conv => rhs; rw [baseAt]
          split <;> simp [*]
      · refine fin_int (k _ (by walk_at "le") _) ?_
        rw [← b3, if_neg (by simp [*])]
    · refine fin_int (k _ (by walk_at "le") _) ?_
      rw [← b3, if_neg (by simp [*])]
  all_goals (have lt := back_lt (pas 8) rs i.toNat)
  · walk_at "om"
  · walk_at "om"
  · conv => rhs; rw [baseAt]
    split <;> simp [*]
end
/-- what the law reckons with -/
noncomputable def cnt (flag g : Int) : Bool := if cls g ≠ 3 then true else if Builtin.bitAnd flag 16 ≠ 0 then inSet g else decide (flag / 256 = 0) || decide (att g = flag / 256)
noncomputable def ahd (flag : Int) (r : Row) : Bool := decide (r.k = "") && (if flag < 0 then decide (cls r.g ≠ 3) else cnt flag r.g)
noncomputable def RowT (G : PH) (v : Value) (r : Row) : Prop := ∃ a t1 t2 t3 t4 t5, v = .ref a ∧ TupG G a [.int r.g t1, .int r.i t2, .int r.p t3, .str r.k t4, .int r.c t5]
theorem RowT.mono {G G' : PH} {v : Value} {r : Row} (I : RowT G v r) (k : Le G G') : RowT G' v r := let ⟨a, t1, t2, t3, t4, t5, e, i⟩ := I; ⟨a, t1, t2, t3, t4, t5, e, i.mono k⟩
noncomputable def TblG (G : PH) (a : Addr) (rs : List Row) : Prop := ∃ vs, LstG G a vs ∧ Paired (RowT G) vs rs
theorem TblG.mono {G G' : PH} {a : Addr} {rs : List Row} (I : TblG G a rs) (k : Le G G') : TblG G' a rs := let ⟨vs, a, b⟩ := I; ⟨vs, a.mono k, prd_mono b fun _ _ i => i.mono k⟩
section
variable {prog : Program} {w : World} {s : Shared} {A : Around} {h : Heap} {G : PH} {mg mb : Str → Option Value} {env : Env}
theorem w_tblAt {G' : PH} {e i : Expr} {a : Addr} {rs : List Row} {j : Int} {t : Tok} {r : Row} {Q : Value → Heap → Prop} (I : TblG G' a rs) (kG : Le G' h.get?) (h0 : 0 ≤ j) (hn : rs.length ≤ 100) (hr : rs[j.toNat]? = some r)
    (k : ∀ x t1 t2 t3 t4 t5, TupG G' x [.int r.g t1, .int r.i t2, .int r.p t3, .str r.k t4, .int r.c t5] → Q (.ref x) h)
    (hs : subscripted i false (.ref a) (.int j t) = operate [.ref a, .int j t] (getItem (.ref a) (.int j t)) := by with_unfolding_all rfl) : W prog w s A h (subscriptTail e i (.ref a) (.int j t)) Q := by
  obtain ⟨vs, I, P⟩ := I
  obtain ⟨v, e, J⟩ := prd_get P hr
  have : j.toNat < rs.length := (List.getElem?_eq_some_iff.mp hr).1
  obtain ⟨x, t1, t2, t3, t4, t5, rfl, J⟩ := J
  exact w_subList I kG h0 (by walk_at "om") e (k x _ _ _ _ _ J) hs
theorem sp_law_class {g : Int} {t : Tok} {Q : Value → Heap → Prop} (S : Stat (hd.heap_39 w.params) mg mb h.get?) (R : Rm A 1)
    (k : ∀ h', Le h.get? h'.get? → ∀ t, Q (.int (cls g) t) h') : W prog w s A h (call (.ref 592) [.int g t]) Q := by
  obtain ⟨lo, kvs, D, hf⟩ := tab_cls (prog := prog) S
  walk_at "enter"; intro L h₁ _ eE lL F
  repeat' walk_at "z"
  obtain ⟨u, e⟩ := hf g _
  show Q (rv (.ret _)) _
  rw [rv, e]
  exact k _ (by walk_at "le") _
theorem sp_law_counts {g flag : Int} {t t' : Tok} {Q : Value → Heap → Prop} (S : Stat (hd.heap_39 w.params) mg mb h.get?) (R : Rm A 2)
    (k : ∀ h', Le h.get? h'.get? → Q (.bool (cnt flag g)) h') : W prog w s A h (call (.ref 599) [.int g t, .int flag t']) Q := by
  obtain ⟨lo, kvs, D, hf⟩ := tab_att (prog := prog) S
  have T := set_tup S
  walk_at "enter"; intro L h₁ _ eE lL F
  repeat' walk_at "z"
  refine sp_law_class (by walk_at "st") (by walk_at "rm") ?_
  walk_at "back"; intro t'
  repeat' walk_at "z"
  · refine fin_bool (k _ (by walk_at "le")) ?_
    simp [cnt, *]
  · refine fin_bool (k _ (by walk_at "le")) ?_
    simp [cnt, inSet, *]
    rw [Bool.eq_iff_iff]; simp; walk_at "om"
  · refine fin_bool (k _ (by walk_at "le")) ?_
    simp [cnt, *]
  · obtain ⟨u, e⟩ := hf g _
    rw [e]
    repeat' walk_at "z"
    refine fin_bool (k _ (by walk_at "le")) ?_
    simp [cnt, *]
theorem sp_law_ahead {rows : Addr} {flag i : Int} {t t' : Tok} {rs : List Row} {Q : Value → Heap → Prop} (S : Stat (hd.heap_39 w.params) mg mb h.get?) (R : Rm A 3) (J : TblG h.get? rows rs)
    (h0 : 0 ≤ i) (hi : i ≤ rs.length) (hn : rs.length ≤ 100)
    (k : ∀ h', Le h.get? h'.get? → ∀ t, Q (.int (back (ahd flag) rs i.toNat) t) h') : W prog w s A h (call (.ref 606) [.ref rows, .int i t, .int flag t']) Q := by
  walk_at "enter"; intro L h₁ _ eE lL F
  refine w_forRange ?_
  repeat' walk_at "z"
  refine w_range3 (by walk_at "om") (by walk_at "om") ?_
  walk_at "back"
  rename Fm _ _ _ _ _ => F
  intro r hr
  refine ⟨_, _, _, _, i.toNat, h.get?, L, [], _, fun m G' N' l' => N' = [] ∧ l' = ([("flag", .int flag t'), ("at", .int i t), ("rows", .ref rows)] : List (Str × Value)) ∧ m ≤ i.toNat ∧ back (ahd flag) rs (i.toNat - m) = back (ahd flag) rs i.toNat,
    rfl, (by walk_at "hh"), hr, ?_, ?_, F, ⟨rfl, rfl, by walk_at "om", rfl⟩, ?_, ?_⟩
  · simp only [Builtin.Range.small, Builtin.Range.rangeFitsLong, Builtin.Range.rangeSize]; simp; walk_at "om"
  · simp only [Builtin.Range.rangeSize]; rw [if_neg (by walk_at "om"), show (-(-1:Int)) = 1 from rfl, Int.ediv_one]; split <;> walk_at "om"
  · rintro m v G' H N' l' h' hm ⟨u, rfl⟩ hG F' ⟨rfl, rfl, b1, b2⟩
    replace S := S.mono hG
    replace J := J.mono hG
    obtain ⟨n, hn'⟩ : ∃ n, i.toNat - m = n + 1 := ⟨i.toNat - m - 1, by walk_at "om"⟩
    have em : i - 1 + (m : Int) * -1 = n := by walk_at "om"
    rw [em]
    have hlt : n < rs.length := by walk_at "om"
    have er : rs[(n : Int).toNat]? = some rs[n] := by simp [hlt]
    have bk : ∀ b, ahd flag rs[n] = b → back (ahd flag) rs (n + 1) = if b = true then (n : Int) else back (ahd flag) rs n := by
      intro b e
      rw [back]; simp [hlt, e]
    repeat' walk_at "z"
    refine w_tblAt J (by walk_at "le") (by walk_at "om") hn er ?_
    intro x u1 u2 u3 u4 u5 T
    repeat' walk_at "z"
    · refine w_tblAt J (by walk_at "le") (by walk_at "om") hn er ?_
      intro x u1 u2 u3 u4 u5 T
      repeat' walk_at "z"
      refine sp_law_class (by walk_at "st") (by walk_at "rm") ?_
      walk_at "back"; intro t'
      repeat' walk_at "z"
      · refine fin_int (Q := Q) (k _ (by walk_at "le") _) ?_
        rw [← b2, hn', bk true (by simp [ahd, *])]; rfl
      · rename Fm _ _ _ _ _ => F
        refine ⟨[], _, F.to [("flag", .int flag _), ("at", .int i t), ("rows", .ref rows)] ⟨rfl, rfl, rfl, trivial⟩, rfl, rfl, by walk_at "om", ?_⟩
        rw [← b2, hn', bk false (by simp [ahd, *]), show i.toNat - (m + 1) = n by walk_at "om"]; rfl
    · refine w_tblAt J (by walk_at "le") (by walk_at "om") hn er ?_
      intro x u1 u2 u3 u4 u5 T
      repeat' walk_at "z"
      refine sp_law_counts (by walk_at "st") (by walk_at "rm") ?_
      walk_at "back"
      repeat' walk_at "z"
      · refine fin_int (Q := Q) (k _ (by walk_at "le") _) ?_
        rw [← b2, hn', bk true (by simp [ahd, *])]; rfl
      · rename Fm _ _ _ _ _ => F
        refine ⟨[], _, F.to [("flag", .int flag _), ("at", .int i t), ("rows", .ref rows)] ⟨rfl, rfl, rfl, trivial⟩, rfl, rfl, by walk_at "om", ?_⟩
        rw [← b2, hn', bk false (by simp [ahd, *]), show i.toNat - (m + 1) = n by walk_at "om"]; rfl
    · rename Fm _ _ _ _ _ => F
      refine ⟨[], _, F.to [("flag", .int flag _), ("at", .int i t), ("rows", .ref rows)] ⟨rfl, rfl, rfl, trivial⟩, rfl, rfl, by walk_at "om", ?_⟩
      rw [← b2, hn', bk false (by simp [ahd, *]), show i.toNat - (m + 1) = n by walk_at "om"]; rfl
  · rintro G' N' l' h' hG F ⟨rfl, rfl, _, b2⟩
    replace S := S.mono hG
    repeat' walk_at "z"
    refine fin_int (k _ (by walk_at "le") _) ?_
    rw [← b2, Nat.sub_self]; rfl
theorem sp_law_is_later {rows : Addr} {i : Int} {t : Tok} {rs : List Row} {Q : Value → Heap → Prop} (S : Stat (hd.heap_39 w.params) mg mb h.get?) (R : Rm A 3) (J : TblG h.get? rows rs)
    (h0 : 0 ≤ i) (hi : i < rs.length) (hn : rs.length ≤ 100)
    (k : ∀ h', Le h.get? h'.get? → Q (.bool (later rs i.toNat)) h') : W prog w s A h (call (.ref 613) [.ref rows, .int i t]) Q := by
  obtain ⟨n, rfl⟩ : ∃ n : Nat, i = n := ⟨i.toNat, by walk_at "om"⟩
  have hm : n < rs.length := by walk_at "om"
  have er : rs[(n : Int).toNat]? = some rs[n] := by simp [hm]
  have er' : rs[n]? = some rs[n] := by simp [hm]
  walk_at "enter"; intro L h₁ _ eE lL F
  repeat' walk_at "z"
  · refine fin_bool (k _ (by walk_at "le")) ?_
    simp [later, er']; walk_at "om"
  refine w_tblAt J (by walk_at "le") (by walk_at "om") hn er ?_
  intro x u1 u2 u3 u4 u5 T
  repeat' walk_at "z"
  · refine fin_bool (k _ (by walk_at "le")) ?_
    simp [later, er']; walk_at "om"
  refine w_tblAt J (by walk_at "le") (by walk_at "om") hn er ?_
  intro x u1 u2 u3 u4 u5 T
  repeat' walk_at "z"
  · refine fin_bool (k _ (by walk_at "le")) ?_
    simp [later, er']; walk_at "om"
  have hm2 : n - 1 < rs.length := by walk_at "om"
  have er2 : rs[((n : Int) - 1).toNat]? = some rs[n - 1] := by
    rw [show ((n : Int) - 1).toNat = n - 1 by walk_at "om"]; simp [hm2]
  have er3 : rs[n - 1]? = some rs[n - 1] := by simp [hm2]
  refine w_tblAt J (by walk_at "le") (by walk_at "om") hn er2 ?_
  intro x u1 u2 u3 u4 u5 T
  repeat' walk_at "z"
  refine sp_law_class (by walk_at "st") (by walk_at "rm") ?_
  walk_at "back"; intro t'
  repeat' walk_at "z"
  · refine fin_bool (k _ (by walk_at "le")) ?_
    simp [later, er', er3, *]
  refine w_tblAt J (by walk_at "le") (by walk_at "om") hn er2 ?_
  intro x u1 u2 u3 u4 u5 T
  repeat' walk_at "z"
  · refine w_tblAt J (by walk_at "le") (by walk_at "om") hn er2 ?_
    intro x u1 u2 u3 u4 u5 T
    repeat' walk_at "z"
    refine w_tblAt J (by walk_at "le") (by walk_at "om") hn er ?_
    intro x u1 u2 u3 u4 u5 T
    repeat' walk_at "z"
    refine fin_bool (k _ (by walk_at "le")) ?_
    simp only [Int.toNat_natCast, later]; rw [er']; dsimp only; rw [if_neg (by walk_at "om"), er3]; simp [*]
    walk_at "om"
  · refine fin_bool (k _ (by walk_at "le")) ?_
    simp only [Int.toNat_natCast, later]; rw [er']; dsimp only; rw [if_neg (by walk_at "om"), er3]; simp [*]
end
abbrev Pl := Option (Int × Int)
abbrev PRow := List Pl
noncomputable def PlaceV (G : PH) (v : Value) : Pl → Prop
  | none => v = .none
  | some (x, y) => ∃ b t1 t2, v = .ref b ∧ TupG G b [.int x t1, .int y t2]
theorem PlaceV.mono {G G' : PH} {v : Value} {p : Pl} (I : PlaceV G v p) (k : Le G G') : PlaceV G' v p := by
  rcases p with _ | ⟨x, y⟩
  · exact I
  · obtain ⟨b, t1, t2, e, i⟩ := I; exact ⟨b, t1, t2, e, i.mono k⟩
noncomputable def PRowV (G : PH) (v : Value) (row : PRow) : Prop := ∃ a us, v = .ref a ∧ LstG G a us ∧ Paired (PlaceV G) us row
theorem PRowV.mono {G G' : PH} {v : Value} {p : PRow} (I : PRowV G v p) (k : Le G G') : PRowV G' v p := let ⟨a, us, e, i, p⟩ := I; ⟨a, us, e, i.mono k, prd_mono p fun _ _ i => i.mono k⟩
noncomputable def PartsV (G : PH) (v : Value) (ps : List PRow) : Prop := ∃ a us, v = .ref a ∧ LstG G a us ∧ Paired (PRowV G) us ps
theorem PartsV.mono {G G' : PH} {v : Value} {p : List PRow} (I : PartsV G v p) (k : Le G G') : PartsV G' v p := let ⟨a, us, e, i, p⟩ := I; ⟨a, us, e, i.mono k, prd_mono p fun _ _ i => i.mono k⟩
/-- a dict from ints, its values as V says -/
noncomputable def MapG {α : Type} (V : PH → Value → α → Prop) (prog : Program) (w : World) (G : PH) (d : Addr) (O : List (Int × α)) : Prop :=
  (d == sysModules) = false ∧ ∃ kvs, DctG prog w G d kvs ∧ Paired (fun kv p => kv.1 = p.1 ∧ V G kv.2 p.2) kvs O
theorem MapG.mono {α : Type} {V : PH → Value → α → Prop} {prog : Program} {w : World} {G G' : PH} {d : Addr} {O : List (Int × α)} (hV : ∀ v x, V G v x → V G' v x) (I : MapG V prog w G d O) (k : Le G G') : MapG V prog w G' d O :=
  let ⟨lo, kvs, D, P⟩ := I; ⟨lo, kvs, D.mono k, prd_mono P fun _ _ i => ⟨i.1, hV _ _ i.2⟩⟩
theorem map_get {α : Type} {V : Value → α → Prop} {kvs : List (Int × Value)} {O : List (Int × α)} (P : Paired (fun kv p => kv.1 = p.1 ∧ V kv.2 p.2) kvs O) (g : Int) :
    (O.lookup g = none ∧ valueAt kvs g = none) ∨ ∃ x v, O.lookup g = some x ∧ valueAt kvs g = some v ∧ V v x := by
  induction P with
  | nil => exact .inl ⟨rfl, rfl⟩
  | @cons kv p l₁ l₂ e _ ih =>
    obtain ⟨k, v⟩ := kv
    obtain ⟨k', x⟩ := p
    obtain ⟨e1, e2⟩ := e
    dsimp only at e1 e2
    subst e1
    by_cases q : g = k
    · subst q
      exact .inr ⟨x, v, by simp [List.lookup_cons], by simp [valueAt], e2⟩
    · have q1 : (g == k) = false := beq_eq_false_iff_ne.mpr q
      have q2 : ¬ k = g := fun e => q e.symm
      rw [List.lookup_cons, q1]
      have : valueAt ((k, v) :: l₁) g = valueAt l₁ g := by simp [valueAt, q2]
      rw [this]
      exact ih
section
variable {prog : Program} {w : World} {s : Shared} {A : Around} {h : Heap} {G : PH} {mg mb : Str → Option Value} {env : Env}
theorem w_mapIn {α : Type} {V : PH → Value → α → Prop} {G' : PH} {d : Addr} {O : List (Int × α)} {g : Int} {t : Tok} {Q : Value → Heap → Prop} (k : Q (.bool (O.lookup g).isSome) h) (I : MapG V prog w G' d O := by walk_at "as") (kG : Le G' h.get? := by walk_at "le") :
    W prog w s A h (compareOp .In (.int g t) (.ref d)) Q := by
  obtain ⟨lo, kvs, D, P⟩ := I
  refine w_din ?_ D kG lo
  rcases map_get P g with ⟨a, b⟩ | ⟨x, v, a, b, _⟩ <;> rw [b] <;> rw [a] at k <;> exact k
theorem w_mapNotIn {α : Type} {V : PH → Value → α → Prop} {G' : PH} {d : Addr} {O : List (Int × α)} {g : Int} {t : Tok} {Q : Value → Heap → Prop} (k : Q (.bool (!(O.lookup g).isSome)) h) (I : MapG V prog w G' d O := by walk_at "as") (kG : Le G' h.get? := by walk_at "le") :
    W prog w s A h (compareOp .NotIn (.int g t) (.ref d)) Q := by
  obtain ⟨lo, kvs, D, P⟩ := I
  refine w_dnotin ?_ D kG lo
  rcases map_get P g with ⟨a, b⟩ | ⟨x, v, a, b, _⟩ <;> rw [b] <;> rw [a] at k <;> exact k
theorem w_mapAt {α : Type} {V : PH → Value → α → Prop} {G' : PH} {e i : Expr} {d : Addr} {O : List (Int × α)} {g : Int} {t : Tok} {x : α} {Q : Value → Heap → Prop} (I : MapG V prog w G' d O) (kG : Le G' h.get?) (hx : O.lookup g = some x)
    (k : ∀ v, V G' v x → Q v h) (hs : subscripted i false (.ref d) (.int g t) = operate [.ref d, .int g t] (getItem (.ref d) (.int g t)) := by with_unfolding_all rfl) : W prog w s A h (subscriptTail e i (.ref d) (.int g t)) Q := by
  obtain ⟨lo, kvs, D, P⟩ := I
  rcases map_get P g with ⟨a, b⟩ | ⟨x', v, a, b, c⟩
  · rw [hx] at a; cases a
  · rw [hx] at a; cases a
    exact w_subDict D kG b (k v c) hs
/-- are_of_one, and the law's own of it -/
noncomputable def ofOne (m r : Row) : Bool := if m.i = r.i then decide (m.i = 0) || decide (m.p = r.p) else (decide (0 < m.i) && decide (m.p = 0)) || (decide (0 < r.i) && decide (r.p = 0))
noncomputable def compIx (m r : Row) (c : Nat) : Nat := if 0 < r.i ∧ r.i = m.i ∧ 0 < m.p then (min m.p c - 1).toNat else c - 1
noncomputable def goal2 (P : Row → Bool) (rs : List Row) (n : Nat) (O : List (Int × List PRow)) : Option (Nat × PRow) :=
  if back P rs n < 0 then none else match rs[(back P rs n).toNat]?, rs[n]? with
    | some r, some m => if cls r.g ≠ 3 then none else match O.lookup r.g with
      | none => none
      | some ps => if ofOne m r then (ps[0]?).map (fun row => ((back P rs n).toNat, row)) else none
    | _, _ => none
noncomputable def GoalV (G : PH) (o : Option (Nat × PRow)) (pi : Int) (v : Value) : Prop := match o with
  | none => pi = -1 ∧ v = .none
  | some (j, row) => pi = j ∧ PRowV G v row
theorem GoalV.non {G : PH} {o : Option (Nat × PRow)} (e : o = none) : GoalV G o (-1) .none := by rw [e]; exact ⟨rfl, rfl⟩
theorem GoalV.som {G : PH} {o : Option (Nat × PRow)} {pi : Int} {j : Nat} {row : PRow} {v : Value} (p : PRowV G v row) (hp : pi = j) (e : o = some (j, row)) : GoalV G o pi v := by rw [e]; exact ⟨hp, p⟩
theorem sp_law_goal2 {rows d : Addr} {flag i : Int} {t t' t'' : Tok} {rs : List Row} {O : List (Int × List PRow)} {Q : Value → Heap → Prop} (S : Stat (hd.heap_39 w.params) mg mb h.get?) (R : Rm A 5) (J : TblG h.get? rows rs)
    {G₀ : PH} (k₀ : Le G₀ h.get?) (D : MapG PartsV prog w G₀ d O) (hO : ∀ g ps, O.lookup g = some ps → ps.length = 1) (h0 : 0 ≤ i) (hi : i < rs.length) (hn : rs.length ≤ 100)
    (k : ∀ h', Le h.get? h'.get? → ∀ a pi t v, GoalV G₀ (goal2 (ahd flag) rs i.toNat O) pi v → TupG h'.get? a [.int pi t, v] → Q (.ref a) h') : W prog w s A h (call (.ref 620) [.int 2 t, .ref rows, .int i t', .int flag t'', .ref d]) Q := by
  obtain ⟨n, rfl⟩ : ∃ n : Nat, i = n := ⟨i.toNat, by walk_at "om"⟩
  have hm : n < rs.length := by walk_at "om"
  have er : rs[(n : Int).toNat]? = some rs[n] := by simp [hm]
  have er' : rs[n]? = some rs[n] := by simp [hm]
  have lt := back_lt (ahd flag) rs n
  walk_at "enter"; intro L h₁ _ eE lL F
  repeat' walk_at "z"
  refine sp_law_ahead (by walk_at "st") (by walk_at "rm") (J.mono (by walk_at "le")) (by walk_at "om") (by walk_at "om") hn ?_
  walk_at "back"; intro t'
  simp only [Int.toNat_natCast] at k ⊢
  generalize hj : back (ahd flag) rs n = j at *
  repeat' walk_at "z"
  · rename Fm _ _ _ _ _ => F
    exact k _ F.keep _ _ _ _ (.non (by simp [goal2, hj, *])) (TupG.of (F.get (.head _)))
  have hjl : j.toNat < rs.length := by walk_at "om"
  have ej : rs[j.toNat]? = some rs[j.toNat] := by simp [hjl]
  refine w_tblAt J (by walk_at "le") (by walk_at "om") hn ej ?_
  intro x u1 u2 u3 u4 u5 T
  repeat' walk_at "z"
  refine sp_law_class (by walk_at "st") (by walk_at "rm") ?_
  walk_at "back"; intro t'
  repeat' walk_at "z"
  · rename Fm _ _ _ _ _ => F
    exact k _ F.keep _ _ _ _ (.non (by simp [goal2, hj, *])) (TupG.of (F.get (.head _)))
  refine w_tblAt J (by walk_at "le") (by walk_at "om") hn ej ?_
  intro x u1 u2 u3 u4 u5 T
  repeat' walk_at "z"
  · rename Fm _ _ _ _ _ => F
    rename Option.isSome _ = false => hb
    have hb : O.lookup rs[j.toNat].g = none := by simpa using hb
    exact k _ F.keep _ _ _ _ (.non (by simp [goal2, hj, *])) (TupG.of (F.get (.head _)))
  rename Option.isSome _ = true => hb
  obtain ⟨ps, hps⟩ := Option.isSome_iff_exists.mp hb
  obtain ⟨row, rfl⟩ : ∃ row, ps = [row] := List.length_eq_one_iff.mp (hO _ _ hps)
  refine w_tblAt J (by walk_at "le") (by walk_at "om") hn er ?_
  intro x v1 v2 v3 v4 v5 Tm
  repeat' walk_at "z"
  refine w_tblAt J (by walk_at "le") (by walk_at "om") hn ej ?_
  intro x w1 w2 w3 w4 w5 Tr
  repeat' walk_at "z"
  all_goals first
    | (rename Fm _ _ _ _ _ => F
       refine k _ F.keep _ _ _ _ (.non ?_) (TupG.of (F.get (.head _)))
       first
       | (simp [goal2, hj, ofOne, *]; done)
       | (simp [goal2, hj, ofOne, *]; walk_at "om"))
    | (refine w_mapAt D (by walk_at "le") hps ?_
       rintro v ⟨a, us, rfl, L1, P1⟩
       obtain ⟨u, e1, e2⟩ := prd_get P1 (i := 0) (b := row) rfl
       repeat' walk_at "z"
       refine w_subList L1 (by walk_at "le") (by walk_at "om") (by walk_at "om") e1 ?_
       repeat' walk_at "z"
       rename Fm _ _ _ _ _ => F
       refine k _ F.keep _ _ _ _ (.som (j := j.toNat) e2 (by walk_at "om") ?_) (TupG.of (F.get (.head _)))
       first
       | (simp [goal2, hj, ofOne, *]; done)
       | (simp [goal2, hj, ofOne, *]; walk_at "om"))
end
noncomputable def goal0 (P : Row → Bool) (rs : List Row) (n : Nat) (O : List (Int × List PRow)) : Option (Nat × PRow) :=
  if baseAt P rs n < 0 then none else match rs[(baseAt P rs n).toNat]? with
    | some r => (match O.lookup r.g with
      | none => none
      | some ps => (ps[0]?).map (fun row => ((baseAt P rs n).toNat, row)))
    | _ => none
noncomputable def goal1 (P : Row → Bool) (rs : List Row) (n : Nat) (O : List (Int × List PRow)) : Option (Nat × PRow) :=
  if back P rs n < 0 then none else match rs[(back P rs n).toNat]?, rs[n]? with
    | some r, some m => (match O.lookup r.g with
      | none => none
      | some ps => if ps = [] then none else (ps[compIx m r ps.length]?).map (fun row => ((back P rs n).toNat, row)))
    | _, _ => none
theorem goal0_n1 {P : Row → Bool} {rs : List Row} {n : Nat} {O : List (Int × List PRow)} {j : Int} (e : baseAt P rs n = j) (hj : j < 0) : goal0 P rs n O = none := by unfold goal0; rw [e, if_pos hj]
theorem goal0_n2 {P : Row → Bool} {rs : List Row} {n : Nat} {O : List (Int × List PRow)} {j : Int} {r : Row} (e : baseAt P rs n = j) (hj : 0 ≤ j) (er : rs[j.toNat]? = some r) (hl : O.lookup r.g = none) : goal0 P rs n O = none := by
  unfold goal0; rw [e, if_neg (by walk_at "om"), er]; dsimp only; rw [hl]
theorem goal0_s {P : Row → Bool} {rs : List Row} {n : Nat} {O : List (Int × List PRow)} {j : Int} {r : Row} {ps : List PRow} {row : PRow} (e : baseAt P rs n = j) (hj : 0 ≤ j) (er : rs[j.toNat]? = some r) (hl : O.lookup r.g = some ps)
    (h0 : ps[0]? = some row) : goal0 P rs n O = some (j.toNat, row) := by
  unfold goal0; rw [e, if_neg (by walk_at "om"), er]; dsimp only; rw [hl]; dsimp only; rw [h0]; rfl
theorem goal1_n1 {P : Row → Bool} {rs : List Row} {n : Nat} {O : List (Int × List PRow)} {j : Int} (e : back P rs n = j) (hj : j < 0) : goal1 P rs n O = none := by unfold goal1; rw [e, if_pos hj]
theorem goal1_n2 {P : Row → Bool} {rs : List Row} {n : Nat} {O : List (Int × List PRow)} {j : Int} {r m : Row} (e : back P rs n = j) (hj : 0 ≤ j) (er : rs[j.toNat]? = some r) (em : rs[n]? = some m) (hl : O.lookup r.g = none) : goal1 P rs n O = none := by
  unfold goal1; rw [e, if_neg (by walk_at "om"), er, em]; dsimp only; rw [hl]
theorem goal1_n3 {P : Row → Bool} {rs : List Row} {n : Nat} {O : List (Int × List PRow)} {j : Int} {r m : Row} (e : back P rs n = j) (hj : 0 ≤ j) (er : rs[j.toNat]? = some r) (em : rs[n]? = some m) (hl : O.lookup r.g = some []) : goal1 P rs n O = none := by
  unfold goal1; rw [e, if_neg (by walk_at "om"), er, em]; dsimp only; rw [hl]; rfl
theorem goal1_s {P : Row → Bool} {rs : List Row} {n : Nat} {O : List (Int × List PRow)} {j : Int} {r m : Row} {ps : List PRow} {row : PRow} {c : Nat} (e : back P rs n = j) (hj : 0 ≤ j) (er : rs[j.toNat]? = some r) (em : rs[n]? = some m) (hl : O.lookup r.g = some ps)
    (hp : ps ≠ []) (hc : compIx m r ps.length = c) (h0 : ps[c]? = some row) : goal1 P rs n O = some (j.toNat, row) := by
  unfold goal1; rw [e, if_neg (by walk_at "om"), er, em]; dsimp only; rw [hl]; dsimp only; rw [if_neg hp, hc, h0]; rfl
section
variable {prog : Program} {w : World} {s : Shared} {A : Around} {h : Heap} {G : PH} {mg mb : Str → Option Value} {env : Env}
theorem sp_law_goal0 {rows d : Addr} {flag i : Int} {t t' t'' : Tok} {rs : List Row} {O : List (Int × List PRow)} {Q : Value → Heap → Prop} (S : Stat (hd.heap_39 w.params) mg mb h.get?) (R : Rm A 5) (J : TblG h.get? rows rs)
    {G₀ : PH} (k₀ : Le G₀ h.get?) (D : MapG PartsV prog w G₀ d O) (hO : ∀ g ps, O.lookup g = some ps → ps.length = 1) (h0 : 0 ≤ i) (hi : i < rs.length) (hn : rs.length ≤ 100)
    (k : ∀ h', Le h.get? h'.get? → ∀ a pi t v, GoalV G₀ (goal0 (ahd (-1)) rs i.toNat O) pi v → TupG h'.get? a [.int pi t, v] → Q (.ref a) h') : W prog w s A h (call (.ref 620) [.int 0 t, .ref rows, .int i t', .int flag t'', .ref d]) Q := by
  obtain ⟨n, rfl⟩ : ∃ n : Nat, i = n := ⟨i.toNat, by walk_at "om"⟩
  have hm : n < rs.length := by walk_at "om"
  have er : rs[(n : Int).toNat]? = some rs[n] := by simp [hm]
  have er' : rs[n]? = some rs[n] := by simp [hm]
  walk_at "enter"; intro L h₁ _ eE lL F
  repeat' walk_at "z"
  refine sp_law_ahead (by walk_at "st") (by walk_at "rm") (J.mono (by walk_at "le")) (by walk_at "om") (by walk_at "om") hn ?_
  walk_at "back"; intro t'
  repeat' walk_at "z"
  rename Fm _ _ _ _ _ => F
  refine w_while (fun m h' => ∃ j : Int, ∃ t1, m = (j + 1).toNat ∧ Fm h.get? L [] h' [("place", .int j t1), ("way", .int 0 t), ("rows", .ref rows), ("at", .int n _), ("others", .ref d)] ∧ -1 ≤ j ∧ j < rs.length ∧
    (if 0 ≤ j ∧ later rs j.toNat = true then baseAt (ahd (-1)) rs j.toNat else j) = baseAt (ahd (-1)) rs n) ?_ _ ⟨_, _, rfl, F.to _ ⟨rfl, rfl, rfl, rfl, rfl, trivial⟩, ?_, ?_, ?_⟩
  · rintro m h₂ ⟨j, u1, rfl, F, b1, b2, b3⟩
    have lt := back_lt (ahd (-1)) rs j.toNat
    repeat' walk_at "z"
    · refine sp_law_is_later (by walk_at "st") (by walk_at "rm") (J.mono (by walk_at "le")) (by assumption) b2 hn ?_
      walk_at "back"
      repeat' walk_at "z"
      · have hb0 : 0 ≤ j := by assumption
        rw [if_pos ⟨hb0, by assumption⟩] at b3
        refine sp_law_ahead (by walk_at "st") (by walk_at "rm") (J.mono (by walk_at "le")) hb0 (by walk_at "om") hn ?_
        walk_at "back"; intro t'
        repeat' walk_at "z"
        rename Fm _ _ _ _ _ => F
        refine ⟨_, ?_, _, _, rfl, F.to _ ⟨rfl, rfl, rfl, rfl, rfl, trivial⟩, by walk_at "om", by walk_at "om", ?_⟩
        · walk_at "om"
        · rw [← b3]; conv => rhs; rw [baseAt]
          split <;> simp [*]
      all_goals try (exfalso; walk_at "om"; done)
      · have hb0 : 0 ≤ j := by assumption
        rw [if_neg (by simp [*])] at b3
        have hjl : j.toNat < rs.length := by walk_at "om"
        have ej : rs[j.toNat]? = some rs[j.toNat] := by simp [hjl]
        have ejj : ¬ baseAt (ahd (-1)) rs n < 0 := by walk_at "om"
        refine w_tblAt J (by walk_at "le") (by walk_at "om") hn ej ?_
        intro x v1 v2 v3 v4 v5 T
        repeat' walk_at "z"
        · rename Fm _ _ _ _ _ => F
          rename Option.isSome _ = false => hb
          have hb : O.lookup rs[j.toNat].g = none := by simpa using hb
          exact k _ F.keep _ _ _ _ (.non (goal0_n2 b3.symm hb0 ej hb)) (TupG.of (F.get (.head _)))
        rename Option.isSome _ = true => hb
        obtain ⟨ps, hps⟩ := Option.isSome_iff_exists.mp hb
        obtain ⟨row, rfl⟩ : ∃ row, ps = [row] := List.length_eq_one_iff.mp (hO _ _ hps)
        refine w_tblAt J (by walk_at "le") (by walk_at "om") hn ej ?_
        intro x v1 v2 v3 v4 v5 T
        repeat' walk_at "z"
        refine w_mapAt D (by walk_at "le") hps ?_
        rintro v ⟨a, us, rfl, L1, P1⟩
        have hl1 := P1.length
        simp only [List.length_cons, List.length_nil] at hl1
        repeat' walk_at "z"
        · exfalso
          rename List.isEmpty us = true => hb
          rw [List.isEmpty_iff] at hb; subst hb; simp at hl1
        refine w_tblAt J (by walk_at "le") (by walk_at "om") hn ej ?_
        intro x w1 w2 w3 w4 w5 T
        repeat' walk_at "z"
        refine w_mapAt D (by walk_at "le") hps ?_
        rintro v ⟨a, us, rfl, L1, P1⟩
        obtain ⟨u, e1, e2⟩ := prd_get P1 (i := 0) (b := row) rfl
        have hl1 := P1.length
        simp only [List.length_cons, List.length_nil] at hl1
        repeat' walk_at "z"
        refine w_subListNeg L1 (by walk_at "le") (by walk_at "om") (by walk_at "om") (by walk_at "om") (x := u) (by rw [hl1]; exact e1) ?_
        repeat' walk_at "z"
        rename Fm _ _ _ _ _ => F
        exact k _ F.keep _ _ _ _ (.som (j := j.toNat) e2 (by walk_at "om") (goal0_s b3.symm hb0 ej hps rfl)) (TupG.of (F.get (.head _)))
    · rw [if_neg (by walk_at "om")] at b3
      rename Fm _ _ _ _ _ => F
      exact k _ F.keep _ _ _ _ (.non (goal0_n1 b3.symm (by walk_at "om"))) (TupG.of (F.get (.head _)))
    all_goals try (exfalso; walk_at "om"; done)
  all_goals (have lt := back_lt (ahd (-1)) rs n)
  all_goals simp only [Int.toNat_natCast]
  · walk_at "om"
  · walk_at "om"
  · conv => rhs; rw [baseAt]
    split <;> simp [*]
theorem sp_law_goal1 {rows d : Addr} {flag i : Int} {t t' t'' : Tok} {rs : List Row} {O : List (Int × List PRow)} {Q : Value → Heap → Prop} (S : Stat (hd.heap_39 w.params) mg mb h.get?) (R : Rm A 5) (J : TblG h.get? rows rs)
    {G₀ : PH} (k₀ : Le G₀ h.get?) (D : MapG PartsV prog w G₀ d O) (hO : ∀ g ps, O.lookup g = some ps → ps.length ≤ 100) (h0 : 0 ≤ i) (hi : i < rs.length) (hn : rs.length ≤ 100)
    (k : ∀ h', Le h.get? h'.get? → ∀ a pi t v, GoalV G₀ (goal1 (ahd (-1)) rs i.toNat O) pi v → TupG h'.get? a [.int pi t, v] → Q (.ref a) h') : W prog w s A h (call (.ref 620) [.int 1 t, .ref rows, .int i t', .int flag t'', .ref d]) Q := by
  obtain ⟨n, rfl⟩ : ∃ n : Nat, i = n := ⟨i.toNat, by walk_at "om"⟩
  have hm : n < rs.length := by walk_at "om"
  have er : rs[(n : Int).toNat]? = some rs[n] := by simp [hm]
  have er' : rs[n]? = some rs[n] := by simp [hm]
  walk_at "enter"; intro L h₁ _ eE lL F
  repeat' walk_at "z"
  refine sp_law_ahead (by walk_at "st") (by walk_at "rm") (J.mono (by walk_at "le")) (by walk_at "om") (by walk_at "om") hn ?_
  walk_at "back"; intro t'
  have lt := back_lt (ahd (-1)) rs n
  simp only [Int.toNat_natCast] at k ⊢
  generalize hbj : back (ahd (-1)) rs n = j at lt ⊢
  repeat' walk_at "z"
  rename Fm _ _ _ _ _ => F
  refine w_while (fun m h' => Fm h.get? L [] h' [("place", .int j t'), ("way", .int 1 t), ("rows", .ref rows), ("at", .int n _), ("others", .ref d)]) ?_ 0 (F.to _ ⟨rfl, rfl, rfl, rfl, rfl, trivial⟩)
  intro m h₂ F
  repeat' walk_at "z"
  · rename Fm _ _ _ _ _ => F
    exact k _ F.keep _ _ _ _ (.non (goal1_n1 hbj (by assumption))) (TupG.of (F.get (.head _)))
  have hb0 : 0 ≤ j := by walk_at "om"
  have hjl : j.toNat < rs.length := by walk_at "om"
  have ej : rs[j.toNat]? = some rs[j.toNat] := by simp [hjl]
  refine w_tblAt J (by walk_at "le") (by walk_at "om") hn ej ?_
  intro x v1 v2 v3 v4 v5 T
  repeat' walk_at "z"
  · rename Fm _ _ _ _ _ => F
    rename Option.isSome _ = false => hb
    have hb : O.lookup rs[j.toNat].g = none := by simpa using hb
    exact k _ F.keep _ _ _ _ (.non (goal1_n2 hbj hb0 ej er' hb)) (TupG.of (F.get (.head _)))
  rename Option.isSome _ = true => hb
  obtain ⟨ps, hps⟩ := Option.isSome_iff_exists.mp hb
  have hpl := hO _ _ hps
  refine w_tblAt J (by walk_at "le") (by walk_at "om") hn ej ?_
  intro x v1 v2 v3 v4 v5 T
  repeat' walk_at "z"
  refine w_mapAt D (by walk_at "le") hps ?_
  rintro v ⟨a, us, rfl, L1, P1⟩
  have hl1 := P1.length
  repeat' walk_at "z"
  · rename List.isEmpty us = true => hb
    rw [List.isEmpty_iff] at hb; subst hb
    have : ps = [] := List.eq_nil_of_length_eq_zero hl1.symm
    subst this
    rename Fm _ _ _ _ _ => F
    exact k _ F.keep _ _ _ _ (.non (goal1_n3 hbj hb0 ej er' hps)) (TupG.of (F.get (.head _)))
  have hpn : ps ≠ [] := by
    rename List.isEmpty us = false => hb
    rintro rfl
    rw [List.eq_nil_of_length_eq_zero hl1] at hb; cases hb
  have hpl0 : 0 < ps.length := List.length_pos_iff.mpr hpn
  refine w_tblAt J (by walk_at "le") (by walk_at "om") hn ej ?_
  intro x w1 w2 w3 w4 w5 T
  repeat' walk_at "z"
  refine w_mapAt D (by walk_at "le") hps ?_
  rintro v ⟨a, us, rfl, L1, P1⟩
  have hl1 := P1.length
  repeat' walk_at "z"
  have hlast : ps[ps.length - 1]? = some ps[ps.length - 1] := by simp
  obtain ⟨u, e1, e2⟩ := prd_get P1 hlast
  have hxl : us[((-1 : Int) + us.length).toNat]? = some u := by rw [show ((-1 : Int) + us.length).toNat = ps.length - 1 by walk_at "om"]; exact e1
  refine w_tblAt J (by walk_at "le") (by walk_at "om") hn ej ?_
  intro x w1 w2 w3 w4 w5 T
  repeat' walk_at "z"
  rotate_left
  · (refine w_subListNeg L1 (by walk_at "le") (by walk_at "om") (by walk_at "om") (by walk_at "om") hxl ?_
     repeat' walk_at "z"
     rename Fm _ _ _ _ _ => F
     exact k _ F.keep _ _ _ _ (.som (j := j.toNat) e2 (by walk_at "om") (goal1_s hbj hb0 ej er' hps hpn (by unfold compIx; rw [if_neg (by walk_at "om")]) hlast)) (TupG.of (F.get (.head _))))
  refine w_tblAt J (by walk_at "le") (by walk_at "om") hn ej ?_
  intro x w1 w2 w3 w4 w5 T
  repeat' walk_at "z"
  refine w_tblAt J (by walk_at "le") (by walk_at "om") hn er ?_
  intro x w1 w2 w3 w4 w5 T
  repeat' walk_at "z"
  rotate_left
  · (refine w_subListNeg L1 (by walk_at "le") (by walk_at "om") (by walk_at "om") (by walk_at "om") hxl ?_
     repeat' walk_at "z"
     rename Fm _ _ _ _ _ => F
     exact k _ F.keep _ _ _ _ (.som (j := j.toNat) e2 (by walk_at "om") (goal1_s hbj hb0 ej er' hps hpn (by unfold compIx; rw [if_neg (by walk_at "om")]) hlast)) (TupG.of (F.get (.head _))))
  refine w_tblAt J (by walk_at "le") (by walk_at "om") hn er ?_
  intro x w1 w2 w3 w4 w5 T
  repeat' walk_at "z"
  rotate_left
  · (refine w_subListNeg L1 (by walk_at "le") (by walk_at "om") (by walk_at "om") (by walk_at "om") hxl ?_
     repeat' walk_at "z"
     rename Fm _ _ _ _ _ => F
     exact k _ F.keep _ _ _ _ (.som (j := j.toNat) e2 (by walk_at "om") (goal1_s hbj hb0 ej er' hps hpn (by unfold compIx; rw [if_neg (by walk_at "om")]) hlast)) (TupG.of (F.get (.head _))))
  refine w_tblAt J (by walk_at "le") (by walk_at "om") hn er ?_
  intro x w1 w2 w3 w4 w5 T
  repeat' walk_at "z"
  have hc : compIx rs[n] rs[j.toNat] ps.length = (min rs[n].p ps.length - 1).toNat := by unfold compIx; rw [if_pos (by walk_at "om")]
  have hcl : (min rs[n].p (us.length : Int) - 1).toNat < ps.length := by walk_at "om"
  have hce : ps[(min rs[n].p (us.length : Int) - 1).toNat]? = some ps[(min rs[n].p (us.length : Int) - 1).toNat] := by simp [hcl]
  obtain ⟨u, e1, e2⟩ := prd_get P1 hce
  refine w_subList L1 (by walk_at "le") (by walk_at "om") (by walk_at "om") e1 ?_
  repeat' walk_at "z"
  rename Fm _ _ _ _ _ => F
  exact k _ F.keep _ _ _ _ (.som (j := j.toNat) e2 (by walk_at "om") (goal1_s hbj hb0 ej er' hps hpn (by rw [hc, hl1]) hce)) (TupG.of (F.get (.head _)))
end
/-- an info, its fields -/
structure Inf where
  r : Row
  us : Bool
  xo : Int
  yo : Int
  pa : Int
  bo : Str
noncomputable def InfF (f : Inf) (fs : List (Str × Value)) : Prop := ∃ t0 t1 t2 t3 t4 t5 t6 t7 t8 t9 t10 t11 t12 t13, fs = ([("code", .int 97 t0), ("glyph", .int f.r.g t1), ("cluster", .int f.r.c t2), ("mask", .int 0 t3), ("is_unsafe", .bool f.us), ("lig_id", .int f.r.i t4), ("lig_part", .int f.r.p t5), ("lig_count", .int 0 t6),
  ("kind", .str f.r.k t7), ("x_advance", .int 0 t8), ("y_advance", .int 0 t9), ("x_offset", .int f.xo t10), ("y_offset", .int f.yo t11), ("parent", .int f.pa t12), ("bond", .str f.bo t13)] : List (Str × Value))
noncomputable def DI (o : Obj) (f : Inf) : Prop := ∃ fs, DF o fs ∧ InfF f fs
inductive InfsAre (G : PH) : List Value → List (Addr × Obj) → List Inf → Prop
  | nil : InfsAre G [] [] []
  | cons {x d : Addr} {o : Obj} {f : Inf} {vs : List Value} {ns : List (Addr × Obj)} {fs : List Inf} : G x = some (instObj 175 d) → DI o f → InfsAre G vs ns fs → InfsAre G (.ref x :: vs) ((d, o) :: ns) (f :: fs)
theorem InfsAre.mono {G G' : PH} {vs : List Value} {ns : List (Addr × Obj)} {fs : List Inf} (X : InfsAre G vs ns fs) (k : Le G G') : InfsAre G' vs ns fs := by
  induction X with
  | nil => exact .nil
  | cons a b _ ih => exact .cons (k _ _ a) b ih
theorem InfsAre.len {G : PH} {vs : List Value} {ns : List (Addr × Obj)} {fs : List Inf} (X : InfsAre G vs ns fs) : vs.length = fs.length ∧ ns.length = fs.length := by
  induction X with
  | nil => exact ⟨rfl, rfl⟩
  | cons _ _ _ ih => exact ⟨by simp [ih.1], by simp [ih.2]⟩
theorem InfsAre.get {G : PH} {vs : List Value} {ns : List (Addr × Obj)} {fs : List Inf} (X : InfsAre G vs ns fs) : ∀ {i : Nat} {f : Inf}, fs[i]? = some f → ∃ x d o, vs[i]? = some (.ref x) ∧ ns[i]? = some (d, o) ∧ G x = some (instObj 175 d) ∧ DI o f := by
  induction X with
  | nil => intro i f e; simp at e
  | cons a b _ ih =>
    intro i f e
    cases i with
    | zero => simp at e; subst e; exact ⟨_, _, _, rfl, rfl, a, b⟩
    | succ i => simpa using ih (by simpa using e)
theorem InfsAre.set {G : PH} {vs : List Value} {ns : List (Addr × Obj)} {fs : List Inf} (X : InfsAre G vs ns fs) {d : Addr} {o o' : Obj} {f' : Inf} (b : DI o' f') : ∀ {i : Nat}, ns[i]? = some (d, o) → InfsAre G vs (ns.set i (d, o')) (fs.set i f') := by
  induction X with
  | nil => intro i e; simp at e
  | @cons x d₀ o₀ f vs ns fs a c _ ih =>
    intro i e
    cases i with
    | zero => simp at e; obtain ⟨rfl, rfl⟩ := e; exact .cons a b (by assumption)
    | succ i => exact .cons a c (ih (by simpa using e))
theorem DI.info {G : PH} {x d : Addr} {o : Obj} {f : Inf} (a : G x = some (instObj 175 d)) (b : DI o f) (e : G d = some o) : InfoG G (.ref x) f.r := by
  obtain ⟨fs, ⟨es, n, rfl, fa⟩, t0, t1, t2, t3, t4, t5, t6, t7, t8, t9, t10, t11, t12, t13, rfl⟩ := b
  exact ⟨x, _, _, _, _, _, _, _, _, _, _, _, _, _, _, _, rfl, d, es, n, a, e, fa⟩
theorem InfsAre.rows {G : PH} {vs : List Value} {ns : List (Addr × Obj)} {fs : List Inf} (X : InfsAre G vs ns fs) (e : ∀ p ∈ ns, G p.1 = some p.2) : Paired (InfoG G) vs (fs.map (·.r)) := by
  induction X with
  | nil => exact .nil
  | cons a b _ ih => exact .cons (b.info a (e _ (.head _))) (ih fun p hp => e p (.tail _ hp))
section
variable {prog : Program} {w : World} {s : Shared} {A : Around} {h : Heap} {G : PH} {mg mb : Str → Option Value} {env : Env}
theorem sp_component_of {x y : Addr} {m r : Row} {c : Nat} {t : Tok} {Q : Value → Heap → Prop} (S : Stat (hd.heap_39 w.params) mg mb h.get?) (R : Rm A 2) (I : InfoG h.get? (.ref x) m) (J : InfoG h.get? (.ref y) r) (hr : 0 ≤ r.i) (hc : 0 < c)
    (k : ∀ h', Le h.get? h'.get? → ∀ t, Q (.int (compIx m r c) t) h') : W prog w s A h (call (.ref 398) [.ref x, .ref y, .int c t]) Q := by
  obtain ⟨x', code, mask, un, lc, xa, ya, xo, yo, pa, bo, u1, u2, u3, u4, u5, e, ii⟩ := I
  cases e
  obtain ⟨y', code', mask', un', lc', xa', ya', xo', yo', pa', bo', u1', u2', u3', u4', u5', e, jj⟩ := J
  cases e
  unfold infoFs at ii jj
  walk_at "enter"; intro L h₁ _ eE lL F
  repeat' walk_at "z"
  all_goals (refine fin_int (k _ (by walk_at "le") _) ?_; unfold compIx; split <;> walk_at "om")
theorem sp_are_of_one {x y : Addr} {m r : Row} {Q : Value → Heap → Prop} (S : Stat (hd.heap_39 w.params) mg mb h.get?) (R : Rm A 2) (I : InfoG h.get? (.ref x) m) (J : InfoG h.get? (.ref y) r)
    (k : ∀ h', Le h.get? h'.get? → Q (.bool (ofOne m r)) h') : W prog w s A h (call (.ref 412) [.ref x, .ref y]) Q := by
  obtain ⟨x', code, mask, un, lc, xa, ya, xo, yo, pa, bo, u1, u2, u3, u4, u5, e, ii⟩ := I
  cases e
  obtain ⟨y', code', mask', un', lc', xa', ya', xo', yo', pa', bo', u1', u2', u3', u4', u5', e, jj⟩ := J
  cases e
  unfold infoFs at ii jj
  walk_at "enter"; intro L h₁ _ eE lL F
  repeat' walk_at "z"
  all_goals (refine fin_bool (k _ (by walk_at "le")) ?_; unfold ofOne; first | (simp [*]; done) | (simp [*]; walk_at "om"))
end
noncomputable def hangF (p e : Nat) (m : Int) (fs : List Inf) : List Inf := fs.mapIdx fun i f => if p ≤ i ∧ i < e ∧ f.r.c ≠ m then { f with us := true } else f
theorem hangF_get {p e : Nat} {m : Int} {fs : List Inf} {i : Nat} : (hangF p e m fs)[i]? = (fs[i]?).map fun f => if p ≤ i ∧ i < e ∧ f.r.c ≠ m then { f with us := true } else f := by
  unfold hangF; rw [List.getElem?_mapIdx]
theorem hangF_zero {p : Nat} {m : Int} {fs : List Inf} : hangF p p m fs = fs := by
  apply List.ext_getElem?; intro i; rw [hangF_get]
  cases fs[i]? with
  | none => rfl
  | some f => rw [Option.map_some, if_neg (by walk_at "om")]
theorem hangF_same {p e : Nat} {m : Int} {fs : List Inf} {f : Inf} (h : fs[e]? = some f) (hc : f.r.c = m) : hangF p (e + 1) m fs = hangF p e m fs := by
  apply List.ext_getElem?; intro i; rw [hangF_get, hangF_get]
  cases q : fs[i]? with
  | none => rfl
  | some f' =>
    rw [Option.map_some, Option.map_some]
    by_cases z : i = e
    · subst z; rw [h] at q; cases q; rw [if_neg (by simp [hc]), if_neg (by walk_at "om")]
    · congr 1; by_cases y : p ≤ i ∧ i < e ∧ f'.r.c ≠ m
      · rw [if_pos y, if_pos ⟨y.1, by walk_at "om", y.2.2⟩]
      · rw [if_neg y, if_neg (fun x => y ⟨x.1, by walk_at "om", x.2.2⟩)]
theorem hangF_step {p e : Nat} {m : Int} {fs : List Inf} {f : Inf} (hp : p ≤ e) (h : fs[e]? = some f) (hc : f.r.c ≠ m) : hangF p (e + 1) m fs = (hangF p e m fs).set e { f with us := true } := by
  have hl : e < fs.length := (List.getElem?_eq_some_iff.mp h).1
  apply List.ext_getElem?; intro i; rw [hangF_get, List.getElem?_set]
  by_cases z : e = i
  · subst z; rw [if_pos rfl, if_pos (by unfold hangF; rw [List.length_mapIdx]; exact hl), h, Option.map_some, if_pos ⟨hp, by walk_at "om", hc⟩]
  · rw [if_neg z, hangF_get]
    cases q : fs[i]? with
    | none => rfl
    | some f' =>
      rw [Option.map_some, Option.map_some]
      congr 1; by_cases y : p ≤ i ∧ i < e ∧ f'.r.c ≠ m
      · rw [if_pos y, if_pos ⟨y.1, by walk_at "om", y.2.2⟩]
      · rw [if_neg y, if_neg (fun x => y ⟨x.1, by walk_at "om", x.2.2⟩)]
theorem hangF_at {p e : Nat} {m : Int} {fs : List Inf} : (hangF p e m fs)[e]? = fs[e]? := by
  rw [hangF_get]; cases fs[e]? with
  | none => rfl
  | some f => rw [Option.map_some, if_neg (by walk_at "om")]
/-- the clusters of a stretch -/
noncomputable def clus (fs : List Inf) (p e : Nat) : List Int := ((fs.map (·.r.c)).drop p).take (e - p)
section
variable {prog : Program} {w : World} {s : Shared} {A : Around} {h : Heap} {G : PH} {mg mb : Str → Option Value} {env : Env}
theorem DI.inst {x d : Addr} {o : Obj} {f : Inf} (a : G x = some (instObj 175 d)) (b : DI o f) (e : G d = some o) : ∃ fs, InfF f fs ∧ InstG G x 175 fs := by
  obtain ⟨fs, ⟨es, n, rfl, fa⟩, r⟩ := b
  exact ⟨fs, r, d, es, n, a, e, fa⟩
theorem InfsAre.base {G G' : PH} {vs : List Value} {ns : List (Addr × Obj)} {fs : List Inf} (X : InfsAre G vs ns fs) : ∀ {M : List (Addr × Obj)} {fs' : List Inf}, InfsAre G' vs M fs' → M.map (·.1) = ns.map (·.1) → InfsAre G vs M fs' := by
  induction X with
  | nil => intro M fs' Y e; cases Y; exact .nil
  | cons a b _ ih =>
    intro M fs' Y e
    cases Y with
    | cons a' b' Y =>
      simp only [List.map_cons, List.cons.injEq] at e
      exact .cons (e.1 ▸ a) b' (ih Y e.2)
theorem ints_snoc {vs : List Value} {ns : List Int} (x : IntsAre vs ns) (n : Int) (t : Tok) : IntsAre (vs ++ [.int n t]) (ns ++ [n]) := by
  induction x with
  | nil => exact .cons n t .nil
  | cons a b _ ih => exact .cons a b ih
theorem take_snoc {α : Type} {xs : List α} {i : Nat} {x : α} (e : xs[i]? = some x) : xs.take (i + 1) = xs.take i ++ [x] := by rw [List.take_add_one, e]; rfl
theorem clus_get {fs : List Inf} {p e i : Nat} {f : Inf} (hi : i < e - p) (q : fs[p + i]? = some f) : (clus fs p e)[i]? = some f.r.c := by
  unfold clus; rw [List.getElem?_take, if_pos hi, List.getElem?_drop, List.getElem?_map, q]; rfl
theorem sp_hang {b row : Addr} {bw ll : Value} {vs : List Value} {ns : List (Addr × Obj)} {fs : List Inf} {p e : Nat} {tp te : Tok} {Q : Value → Heap → Prop} (hG : Le G h.get?) (S : Stat (hd.heap_39 w.params) mg mb G) (R : Rm A 2)
    (hN : ∀ p ∈ ns, h.get? p.1 = some p.2 ∧ G p.1 = none) (nd : (ns.map (·.1)).Nodup) (X : InfsAre G vs ns fs) (B : InstG G b 221 [("row", .ref row), ("is_backward", bw), ("last_lig", ll)]) (V : LstG G row vs)
    (hp : p + 2 ≤ e) (he : e ≤ fs.length) (hn : fs.length ≤ 100)
    (k : ∀ h' ns' m, Le (offAll (ns.map (·.1)) h) h'.get? → (∀ p ∈ ns', h'.get? p.1 = some p.2) → ns'.map (·.1) = ns.map (·.1) → isMin m (clus fs p e) → InfsAre G vs ns' (hangF p e m fs) → Q .none h') :
    W prog w s A h (call (.ref 230) [.ref b, .int p tp, .int e te]) Q := by
  have le₀ : Le G (offAll (ns.map (·.1)) h) := le_offAll hG fun a ha => by
    obtain ⟨p, hp, e⟩ := List.mem_map.mp ha
    rw [← e]; exact (hN p hp).2
  have hG₁ : Le (offAll (ns.map (·.1)) h) h.get? := offAll_le
  have S₁ := S.mono le₀
  have hN₁ : ∀ p ∈ ns, h.get? p.1 = some p.2 ∧ offAll (ns.map (·.1)) h p.1 = none := fun p hp => ⟨(hN p hp).1, offAll_in (List.mem_map.mpr ⟨p, hp, rfl⟩)⟩
  replace B := B.mono le₀
  replace V := V.mono le₀
  have X₁ := X.mono le₀
  obtain ⟨lv, ln⟩ := X.len
  clear hN S hG
  generalize offAll (ns.map (·.1)) h = G₁ at *
  walk_at "enterN"; intro L h₁ _ eE lL F
  repeat' walk_at "z"
  rename Fm _ _ _ _ _ => F
  refine ⟨row, vs, some p, some e, G₁, G₁, L, ns, _, rfl, V, F.keep, F, by rw [sizeLine_eq]; walk_at "om", .int _ _, .int _ _, ?_⟩
  intro st o h₂ F kz D
  refine F.settleK ?_
  intro G2 le2 F e2
  have SL := D.lst e2
  have hst : (vs.drop (clipAt vs.length p)).take (clipAt vs.length e - clipAt vs.length p) = (vs.drop p).take (e - p) := by
    rw [clipAt_nat, clipAt_nat, Nat.min_eq_left (by walk_at "om"), Nat.min_eq_left (by walk_at "om")]
  simp only [Option.elim] at SL
  rw [hst] at SL
  have hls : ((vs.drop p).take (e - p)).length = e - p := by rw [List.length_take, List.length_drop]; walk_at "om"
  have getst : ∀ i, i < e - p → ((vs.drop p).take (e - p))[i]? = vs[p + i]? := fun i hi => by rw [List.getElem?_take, if_pos hi, List.getElem?_drop]
  replace S := S₁.mono le2
  have X2 := X₁.mono le2
  repeat' walk_at "z"
  all_goals try (exfalso; walk_at "om"; done)
  have hcl : (clus fs p e).length = e - p := by unfold clus; rw [List.length_take, List.length_drop, List.length_map]; walk_at "om"
  rename Fm _ _ _ _ _ => F
  refine w_comp rfl (by decide) rfl (by decide) rfl ?_
  repeat' walk_at "z"
  refine (src_list (by walk_at "hh") SL F).mono ?_
  rintro it h₃ ⟨le3, X3⟩
  refine ⟨G2, L, ns, _, _, _, fun i G' N' ys => N' = ns ∧ IntsAre ys ((clus fs p e).take i), X3, by rw [hls, sizeLine_eq]; walk_at "om", ⟨rfl, .nil⟩, ?_, ?_⟩
  · rintro i v G' C H N' ys h' hi hv hG F' ⟨rfl, hy⟩
    rw [hls] at hi
    rw [getst i hi] at hv
    have hpi : p + i < fs.length := by walk_at "om"
    have ef : fs[p + i]? = some fs[p + i] := by simp [hpi]
    obtain ⟨x, d, o', e1, e3, gx, di⟩ := X2.get ef
    rw [e1] at hv; cases hv
    obtain ⟨fl, ⟨t0, t1, t2, t3, t4, t5, t6, t7, t8, t9, t10, t11, t12, t13, rfl⟩, ii⟩ := DI.inst (G := h'.get?) (F'.keep _ _ (hG _ _ gx)) di (F'.get (List.mem_append.mpr (.inr (List.mem_of_getElem? e3))))
    replace S := S.mono hG
    repeat' walk_at "z"
    exact ⟨_, _, F', rfl, by rw [take_snoc (clus_get hi ef)]; exact ints_snoc hy _ _⟩
  rintro G' D o' N' ys h' hG F' D' hl ⟨rfl, hy⟩
  refine F'.settleK ?_
  intro G3 le3 F e3
  replace le3 := hG.trans le3
  have YL := D'.lst e3
  rw [hls, ← hcl, List.take_length] at hy
  replace S := S.mono le3
  replace SL := SL.mono le3
  have X4 := X2.mono le3
  repeat' walk_at "z"
  refine w_minList (by walk_at "hh") YL (by walk_at "le") hy (by walk_at "om") ?_
  walk_at "back"; intro m tm hm
  repeat' walk_at "z"
  rename Fm _ _ _ _ _ => F
  refine w_forList ?_
  repeat' walk_at "z"
  refine ⟨st, _, G3, L, N', _, fun i G' M l' => M.map (·.1) = N'.map (·.1) ∧ InfsAre G' vs M (hangF p (p + i) m fs) ∧ l' = ([("least_cluster", .int m tm), ("stretch", .ref st)] : List (Str × Value)), rfl, by walk_at "hh", SL,
    F.to [("least_cluster", .int m tm), ("stretch", .ref st)] ⟨rfl, rfl, trivial⟩, ⟨rfl, by rw [Nat.add_zero, hangF_zero]; exact X4, rfl⟩, ?_, ?_⟩
  · rintro i v G' H M l' h' hi hv hG' F' ⟨eM, XM, rfl⟩
    rw [hls] at hi
    rw [getst i hi] at hv
    have hpi : p + i < fs.length := by walk_at "om"
    have ef : fs[p + i]? = some fs[p + i] := by simp [hpi]
    obtain ⟨x, d, o', e1, e3, gx, di⟩ := XM.get (i := p + i) (f := fs[p + i]) (by rw [hangF_at]; exact ef)
    rw [e1] at hv; cases hv
    replace S := S.mono hG'
    repeat' walk_at "z"
    rename Fm _ _ _ _ _ => F
    rename Heap => h5
    obtain ⟨fl, ff, ii⟩ := DI.inst (G := h5.get?) (F.keep _ _ gx) di (F.get (List.mem_append.mpr (.inr (List.mem_of_getElem? e3))))
    obtain ⟨t0, t1, t2, t3, t4, t5, t6, t7, t8, t9, t10, t11, t12, t13, rfl⟩ := id ff
    repeat' walk_at "z"
    · obtain ⟨fl', df, ff'⟩ := di
      obtain ⟨t0, t1, t2, t3, t4, t5, t6, t7, t8, t9, t10, t11, t12, t13, rfl⟩ := ff'
      have U := AtF.app (H := H) (AtF.idx e3)
      repeat' walk_at "z"
      rename Fm _ _ _ _ _ => F
      rename DF _ _ => D₁
      rename Obj => o₁
      refine ⟨M.set (p + i) (d, o₁), _, F.to [("least_cluster", .int m tm), ("stretch", .ref st)] ⟨rfl, rfl, trivial⟩, ?_, ?_, rfl⟩
      · rw [List.map_set, ← eM]
        refine List.ext_getElem? fun j => ?_
        rw [List.getElem?_set]
        split
        · rename_i q; subst q; rw [List.getElem?_map, e3, List.length_map, if_pos (List.getElem?_eq_some_iff.mp e3).1]; rfl
        · rfl
      · rw [← Nat.add_assoc, hangF_step (by walk_at "om") ef (by assumption)]
        exact (XM.set ⟨_, D₁, t0, t1, t2, t3, t4, t5, t6, t7, t8, t9, t10, t11, t12, t13, rfl⟩ e3).mono F.rebase.1
    · rename Fm _ _ _ _ _ => F
      refine ⟨M, _, F.to [("least_cluster", .int m tm), ("stretch", .ref st)] ⟨rfl, rfl, trivial⟩, eM, ?_, rfl⟩
      rw [← Nat.add_assoc, hangF_same ef (by walk_at "om")]
      exact XM.mono F.rebase.1
  · rintro G' M l' h' hG' F ⟨eM, XM, rfl⟩
    rw [hls, show p + (e - p) = e by walk_at "om"] at XM
    replace S := S.mono hG'
    repeat' walk_at "z"
    exact k _ M m (le2.trans (le3.trans (hG'.trans F.keep))) (fun p hp => (F.nw p hp).1) eM hm (X.base XM eM)
end
noncomputable def AncG (G : PH) (b : Addr) (x y : Int) : Prop := ∃ t1 t2, InstG G b 45 [("x", .int x t1), ("y", .int y t2)]
theorem AncG.mono {G G' : PH} {b : Addr} {x y : Int} (I : AncG G b x y) (k : Le G G') : AncG G' b x y := let ⟨t1, t2, i⟩ := I; ⟨t1, t2, i.mono k⟩
noncomputable def AncV (G : PH) (v : Value) : Pl → Prop
  | none => v = .none
  | some (x, y) => ∃ b, v = .ref b ∧ AncG G b x y
theorem AncV.mono {G G' : PH} {v : Value} {p : Pl} (I : AncV G v p) (k : Le G G') : AncV G' v p := by
  rcases p with _ | ⟨x, y⟩
  · exact I
  · obtain ⟨b, e, i⟩ := I; exact ⟨b, e, i.mono k⟩
/-- a mark's entry: its class, its Anchor -/
noncomputable def OwnV (G : PH) (v : Value) (p : Int × Int × Int) : Prop := ∃ a b t, v = .ref a ∧ TupG G a [.int p.1 t, .ref b] ∧ AncG G b p.2.1 p.2.2
theorem OwnV.mono {G G' : PH} {v : Value} {p : Int × Int × Int} (I : OwnV G v p) (k : Le G G') : OwnV G' v p := let ⟨a, b, t, e, i, j⟩ := I; ⟨a, b, t, e, i.mono k, j.mono k⟩
noncomputable def ARowV (G : PH) (v : Value) (row : PRow) : Prop := ∃ a us, v = .ref a ∧ TupG G a us ∧ Paired (AncV G) us row
theorem ARowV.mono {G G' : PH} {v : Value} {p : PRow} (I : ARowV G v p) (k : Le G G') : ARowV G' v p := let ⟨a, us, e, i, p⟩ := I; ⟨a, us, e, i.mono k, prd_mono p fun _ _ i => i.mono k⟩
section
variable {h h' : Heap} {G : PH} {L : Addr} {N ns ns' H : List (Addr × Obj)} {l : List (Str × Value)}
/-- a part of what stands is taken up again, to be turned -/
theorem Fm.open (F : Fm h.get? L [] h' l) (hN : ∀ p ∈ ns, h.get? p.1 = some p.2) (nd : (ns.map (·.1)).Nodup) : Fm (offAll (ns.map (·.1)) h) L ns h' l := by
  have off : offAll (ns.map (·.1)) h L = none := by
    cases q : offAll (ns.map (·.1)) h L with
    | none => rfl
    | some o => have := offAll_le L o q; rw [F.off] at this; cases this
  refine ⟨F.ns, offAll_le.trans F.keep, off, fun p hp => ⟨F.keep _ _ (hN p hp), offAll_in (List.mem_map.mpr ⟨p, hp, rfl⟩), fun e => ?_⟩, nd⟩
  have := hN p hp
  rw [e, F.off] at this; cases this
end
section
variable {prog : Program} {w : World} {s : Shared} {A : Around} {h : Heap} {G : PH} {mg mb : Str → Option Value} {env : Env}
theorem sp_difference {a b : Addr} {x y x' y' : Int} {Q : Value → Heap → Prop} (S : Stat (hd.heap_39 w.params) mg mb h.get?) (R : Rm A 2) (I : AncG h.get? a x y) (J : AncG h.get? b x' y')
    (k : ∀ h', Le h.get? h'.get? → ∀ c t t', TupG h'.get? c [.int (x - x') t, .int (y - y') t'] → Q (.ref c) h') : W prog w s A h (call (.ref 63) [.ref a, .ref b]) Q := by
  obtain ⟨t1, t2, I⟩ := I
  obtain ⟨t3, t4, J⟩ := J
  walk_at "enter"; intro L h₁ _ eE lL F
  repeat' walk_at "z"
  rename Fm _ _ _ _ _ => F
  exact k _ (by walk_at "le") _ _ _ (TupG.of (F.get (.head _)))
theorem sp_set_on {sc b row md ra : Addr} {flag : Int} {vs us : List Value} {ns : List (Addr × Obj)} {fs : List Inf} {f : Inf} {p n : Nat} {M : List (Int × Int × Int × Int)} {c ox oy : Int} {prow : PRow} {pl : Pl} {tn tp : Tok} {Q : Value → Heap → Prop}
    (hG : Le G h.get?) (S : Stat (hd.heap_39 w.params) mg mb G) (R : Rm A 4) (hN : ∀ p ∈ ns, h.get? p.1 = some p.2 ∧ G p.1 = none) (nd : (ns.map (·.1)).Nodup) (X : InfsAre G vs ns fs) (Sc : ScnG prog w G sc b row flag) (V : LstG G row vs)
    (MD : MapG OwnV prog w G md M) (T : TupG G ra us) (P : Paired (AncV G) us prow) (hp : p < n) (hf : fs[n]? = some f) (hn : fs.length ≤ 100) (hM : M.lookup f.r.g = some (c, ox, oy)) (hc : 0 ≤ c) (hpl : prow[c.toNat]? = some pl) (hpn : prow.length ≤ 100)
    (kn : pl = none → ∀ h', Le h.get? h'.get? → ∀ t, Q (.int (-1) t) h')
    (ks : ∀ ax ay, pl = some (ax, ay) → ∀ h' ns' m, Le (offAll (ns.map (·.1)) h) h'.get? → (∀ p ∈ ns', h'.get? p.1 = some p.2) → ns'.map (·.1) = ns.map (·.1) → isMin m (clus fs p (n + 1)) →
      InfsAre G vs ns' (hangF p (n + 1) m (fs.set n { f with xo := ax - ox, yo := ay - oy, pa := (p : Int) - n, bo := "mark" })) → ∀ t, Q (.int (n + 1) t) h') :
    W prog w s A h (call (.ref 384) [.ref sc, .ref md, .ref ra, .int n tn, .int p tp]) Q := by
  have hnl : n < fs.length := (List.getElem?_eq_some_iff.mp hf).1
  have hN' : ∀ p ∈ ns, h.get? p.1 = some p.2 := fun p hp => (hN p hp).1
  have le₀ : Le G (offAll (ns.map (·.1)) h) := le_offAll hG fun a ha => by
    obtain ⟨p, hp, e⟩ := List.mem_map.mp ha
    rw [← e]; exact (hN p hp).2
  obtain ⟨x, d, o, ev, en, gx, di⟩ := X.get hf
  have dd := hN' _ (List.mem_of_getElem? en)
  obtain ⟨lv, ln⟩ := X.len
  obtain ⟨fl, ff, ii⟩ := DI.inst (G := h.get?) (hG _ _ gx) di dd
  obtain ⟨t0, t1, t2, t3, t4, t5, t6, t7, t8, t9, t10, t11, t12, t13, rfl⟩ := id ff
  obtain ⟨gd, ls, lk, mk, dp, kd, tb, bw, ll, tm, td, tk, u1, u2, h1, h2, h3, h4⟩ := id Sc
  have SG := S
  replace S := S.mono hG
  replace h1 := h1.mono hG
  have h2' := h2.mono hG
  have V' := V.mono hG
  have MD' := MD.mono (fun _ _ i => i.mono hG) hG
  have T' := T.mono hG
  obtain ⟨av, eav, iav⟩ := prd_get P hpl
  have iav' := iav.mono hG
  have hpl' := P.length
  have hcl : c.toNat < prow.length := (List.getElem?_eq_some_iff.mp hpl).1
  walk_at "enter"; intro L h₁ _ eE lL F
  repeat' walk_at "z"
  refine w_subList V' (by walk_at "le") (by walk_at "om") (by walk_at "om") (x := .ref x) ev ?_
  repeat' walk_at "z"
  refine w_mapAt MD' (by walk_at "le") hM ?_
  rintro v ⟨a', b', t', rfl, T1, A1⟩
  repeat' walk_at "z"
  · refine w_subTup T' (by walk_at "le") (by walk_at "om") (by walk_at "om") eav ?_
    rcases pl with _ | ⟨ax, ay⟩
    · obtain rfl : av = .none := iav
      repeat' walk_at "z"
      exact fin_int (kn rfl _ (by walk_at "le") _) rfl
    · obtain ⟨q, rfl, A2⟩ := iav'
      repeat' walk_at "z"
      refine sp_difference (by walk_at "st") (by walk_at "rm") (A2.mono (by walk_at "le")) (A1.mono (by walk_at "le")) ?_
      walk_at "back"; intro q' tx ty T2
      repeat' walk_at "z"
      rename Fm _ _ _ _ _ => F
      replace F := F.open hN' nd
      obtain ⟨pre, post, en', hpre⟩ : ∃ pre post, ns = pre ++ (d, o) :: post ∧ pre.length = n := by
        have hl : n < ns.length := by walk_at "om"
        refine ⟨ns.take n, ns.drop (n + 1), ?_, by rw [List.length_take]; walk_at "om"⟩
        have : ns[n] = (d, o) := by rw [List.getElem?_eq_getElem hl] at en; exact Option.some.inj en
        rw [← this, List.getElem_cons_drop, List.take_append_drop]
      have S₁ := SG.mono le₀
      have h1₁ := (Sc.mono le₀)
      have X₁ := X.mono le₀
      obtain ⟨gd', ls', lk', mk', dp', kd', tb', bw', ll', tm', td', tk', u1', u2', h1', h2', h3', h4'⟩ := h1₁
      have gx₁ := le₀ _ _ gx
      have V₁ := V.mono le₀
      obtain ⟨fl', D, ff'⟩ := di
      obtain ⟨t0, t1, t2, t3, t4, t5, t6, t7, t8, t9, t10, t11, t12, t13, rfl⟩ := ff'
      generalize hG₁ : offAll (ns.map (·.1)) h = G₁ at *
      subst en'
      clear S
      repeat' walk_at "z"
      rename Fm _ _ _ _ _ => F
      rename DF _ _ => D
      rename Obj => o₄
      rw [show (n : Int) + 1 = ((n + 1 : Nat) : Int) from rfl]
      have es : (pre ++ (d, o) :: post).set n (d, o₄) = pre ++ (d, o₄) :: post := by
        rw [List.set_append_right _ _ (by walk_at "om"), hpre, Nat.sub_self]; rfl
      have X₂ := es ▸ X₁.set (o' := o₄) (f' := { f with xo := ax - ox, yo := ay - oy, pa := (p : Int) - n, bo := "mark" }) ⟨_, D, _, _, _, _, _, _, _, _, _, _, _, _, _, _, rfl⟩ en
      refine sp_hang (e := n + 1) F.keep S₁ (by walk_at "rm") (fun p hp => ⟨(F.nw p hp).1, (F.nw p hp).2.1⟩) F.nd X₂ h2' V₁ (by walk_at "om") (by rw [List.length_set]; walk_at "om") (by rw [List.length_set]; exact hn) ?_
      intro h5 ns' m le5 e5 ea5 hm Xh
      have F5 := Fm.turn (H := []) F le5 e5 ea5
      clear F
      have ec : clus (fs.set n { f with xo := ax - ox, yo := ay - oy, pa := (p : Int) - n, bo := "mark" }) p (n + 1) = clus fs p (n + 1) := by
        unfold clus
        rw [List.map_set]
        congr 2
        refine List.ext_getElem? fun j => ?_
        rw [List.getElem?_set]
        split
        · rename_i q; subst q
          rw [List.getElem?_map, hf, List.length_map, if_pos hnl]; rfl
        · rfl
      rw [ec] at hm
      repeat' walk_at "z"
      rename Fm _ _ _ _ _ => F
      refine ks ax ay rfl _ ns' m F.keep (fun p hp => (F.nw p hp).1) ?_ hm (X.base Xh ?_) _
      · rw [ea5]; simp
      · rw [ea5]; simp
  · exfalso; dsimp only at *; walk_at "om"
end
abbrev Marks := List (Int × Int × Int × Int)
/-- where the mark comes to stand: the place ahead, the offsets -/
noncomputable def seat (M : Marks) (gl : Option (Nat × PRow)) (g : Int) : Option (Nat × Int × Int) := match M.lookup g, gl with
  | some (c, ox, oy), some (j, row) => (match row[c.toNat]? with
    | some (some (ax, ay)) => some (j, ax - ox, ay - oy)
    | _ => none)
  | _, _ => none
theorem offAll_mono {as : List Addr} {h h' : Heap} (k : Le h.get? h'.get?) : Le (offAll as h) (offAll as h') := fun b o e => by
  by_cases hb : b ∈ as
  · rw [offAll_in hb] at e; cases e
  · rw [offAll_out hb] at e ⊢; exact k b o e
noncomputable def PartsA (G : PH) (v : Value) (ps : List PRow) : Prop := ∃ a us, v = .ref a ∧ LstG G a us ∧ Paired (ARowV G) us ps
theorem PartsA.mono {G G' : PH} {v : Value} {p : List PRow} (I : PartsA G v p) (k : Le G G') : PartsA G' v p := let ⟨a, us, e, i, p⟩ := I; ⟨a, us, e, i.mono k, prd_mono p fun _ _ i => i.mono k⟩
/-- the first part alone -/
noncomputable def firsts (O : List (Int × List PRow)) : List (Int × PRow) := O.map fun p => (p.1, p.2.headD [])
theorem firsts_lookup (g : Int) : ∀ O : List (Int × List PRow), (firsts O).lookup g = (O.lookup g).map fun ps => ps.headD []
  | [] => rfl
  | (k, ps) :: r => by
    show List.lookup g ((k, ps.headD []) :: firsts r) = _
    rw [List.lookup_cons, List.lookup_cons, firsts_lookup g r]
    cases g == k <;> rfl
/-- the tables' shape -/
structure Shp (M : Marks) (O : List (Int × List PRow)) : Prop where
  cls : ∀ g c x y, M.lookup g = some (c, x, y) → c = 0 ∨ c = 1
  rows : ∀ g ps, O.lookup g = some ps → ∀ row ∈ ps, row.length = 2
  few : ∀ g ps, O.lookup g = some ps → ps.length ≤ 100
section
variable {prog : Program} {w : World} {s : Shared} {A : Around} {h : Heap} {G : PH} {mg mb : Str → Option Value} {env : Env}
theorem row_two {row : PRow} {c : Int} (h : row.length = 2) (hc : c = 0 ∨ c = 1) : ∃ pl, row[c.toNat]? = some pl := by
  have : c.toNat < row.length := by walk_at "om"
  exact ⟨row[c.toNat], by simp [this]⟩
theorem sp_apply_base {sc b row tb md bd : Addr} {flag : Int} {vs : List Value} {ns : List (Addr × Obj)} {fs : List Inf} {f : Inf} {n : Nat} {M : Marks} {O : List (Int × List PRow)} {tn : Tok} {Q : Value → Heap → Prop}
    (hG : Le G h.get?) (S : Stat (hd.heap_39 w.params) mg mb G) (R : Rm A 12) (hN : ∀ p ∈ ns, h.get? p.1 = some p.2 ∧ G p.1 = none) (nd : (ns.map (·.1)).Nodup) (X : InfsAre G vs ns fs) (Sc : ScnG prog w G sc b row flag) (V : LstG G row vs)
    (TB : InstG G tb 291 [("marks", .ref md), ("bases", .ref bd)]) (MD : MapG OwnV prog w G md M) (BD : MapG ARowV prog w G bd (firsts O)) (hS : Shp M O) (hO : ∀ g ps, O.lookup g = some ps → ps.length = 1)
    (hf : fs[n]? = some f) (hn : fs.length ≤ 100)
    (kn : seat M (goal0 (pas 8) (fs.map (·.r)) n O) f.r.g = none → ∀ h', Le h.get? h'.get? → ∀ t, Q (.int (-1) t) h')
    (ks : ∀ j dx dy, seat M (goal0 (pas 8) (fs.map (·.r)) n O) f.r.g = some (j, dx, dy) → ∀ h' ns' m, Le (offAll (ns.map (·.1)) h) h'.get? → (∀ p ∈ ns', h'.get? p.1 = some p.2) → ns'.map (·.1) = ns.map (·.1) → isMin m (clus fs j (n + 1)) →
      InfsAre G vs ns' (hangF j (n + 1) m (fs.set n { f with xo := dx, yo := dy, pa := (j : Int) - n, bo := "mark" })) → ∀ t, Q (.int (n + 1) t) h') :
    W prog w s A h (call (.ref 391) [.ref sc, .ref tb, .int n tn]) Q := by
  have hnl : n < fs.length := (List.getElem?_eq_some_iff.mp hf).1
  have hN' : ∀ p ∈ ns, h.get? p.1 = some p.2 := fun p hp => (hN p hp).1
  have J : RowsG h.get? row (fs.map (·.r)) := ⟨vs, V.mono hG, (X.mono hG).rows hN'⟩
  have hrl : (fs.map (·.r)).length ≤ 100 := by rw [List.length_map]; exact hn
  have er : (fs.map (·.r))[(n : Int).toNat]? = some f.r := by simp [hf]
  have I' := Sc.mono hG
  obtain ⟨gd, ls, lk, mk, dp, kd, tbs, bw, ll, tm, td, tk, u1, u2, h1, h2, h3, h4⟩ := id I'
  have SG := S
  replace S := S.mono hG
  have TB' := TB.mono hG
  have MD' := MD.mono (fun _ _ i => i.mono hG) hG
  have BD' := BD.mono (fun _ _ i => i.mono hG) hG
  walk_at "enter"; intro L h₁ _ eE lL F
  repeat' walk_at "z"
  refine w_rowAt J (by walk_at "le") (by walk_at "om") hrl er ?_
  rintro x ⟨x', code, mask, un, lc, xa, ya, xo, yo, pa, bo, v1, v2, v3, v4, v5, e, ii⟩
  cases e
  unfold infoFs at ii
  repeat' walk_at "z"
  · rename Option.isSome _ = false => hb
    have hb : M.lookup f.r.g = none := by simpa using hb
    exact fin_int (kn (by unfold seat; rw [hb]) _ (by walk_at "le") _) rfl
  rename Option.isSome _ = true => hb
  obtain ⟨⟨c, ox, oy⟩, hM⟩ := Option.isSome_iff_exists.mp hb
  refine sp_base_ahead (by walk_at "st") (by walk_at "rm") (I'.mono (by walk_at "le")) (J.mono (by walk_at "le")) (by walk_at "om") (by rw [List.length_map]; walk_at "om") hrl ?_
  walk_at "back"; intro t'
  have lt := baseAt_lt (pas 8) (fs.map (·.r)) n
  simp only [Int.toNat_natCast]
  generalize hbj : baseAt (pas 8) (fs.map (·.r)) n = j at lt ⊢
  repeat' walk_at "z"
  · exact fin_int (kn (by unfold seat; rw [hM, goal0_n1 hbj (by assumption)]) _ (by walk_at "le") _) rfl
  obtain ⟨p, rfl⟩ : ∃ p : Nat, j = p := ⟨j.toNat, by walk_at "om"⟩
  have hpl : p < (fs.map (·.r)).length := by rw [List.length_map]; walk_at "om"
  obtain ⟨r, er2⟩ : ∃ r, (fs.map (·.r))[p]? = some r := ⟨_, List.getElem?_eq_getElem hpl⟩
  refine w_rowAt J (by walk_at "le") (by walk_at "om") hrl er2 ?_
  rintro y ⟨y', code', mask', un', lc', xa', ya', xo', yo', pa', bo', v1', v2', v3', v4', v5', e, jj⟩
  cases e
  unfold infoFs at jj
  repeat' walk_at "z"
  · rename Option.isSome _ = false => hb
    rw [firsts_lookup, Option.isSome_map] at hb
    have hb : O.lookup r.g = none := by simpa using hb
    exact fin_int (kn (by unfold seat; rw [hM, goal0_n2 hbj (by walk_at "om") er2 hb]) _ (by walk_at "le") _) rfl
  rename Option.isSome _ = true => hb
  rw [firsts_lookup, Option.isSome_map] at hb
  obtain ⟨ps, hps⟩ := Option.isSome_iff_exists.mp hb
  obtain ⟨prow, rfl⟩ : ∃ row, ps = [row] := List.length_eq_one_iff.mp (hO _ _ hps)
  obtain ⟨pl, hpl2⟩ := row_two (hS.rows _ _ hps _ (.head _)) (hS.cls _ _ _ _ hM)
  have hcc := hS.cls _ _ _ _ hM
  refine w_rowAt J (by walk_at "le") (by walk_at "om") hrl er2 ?_
  rintro z ⟨z', code2, mask2, un2, lc2, xa2, ya2, xo2, yo2, pa2, bo2, w1, w2, w3, w4, w5, e, kk⟩
  cases e
  unfold infoFs at kk
  repeat' walk_at "z"
  refine w_mapAt (x := prow) BD (hG.trans (by walk_at "le")) (by rw [firsts_lookup, hps]; rfl) ?_
  rintro v ⟨ra, us, rfl, T, P⟩
  repeat' walk_at "z"
  rename Fm _ _ _ _ _ => F
  have hg : goal0 (pas 8) (fs.map (·.r)) n O = some (p, prow) := goal0_s hbj (by walk_at "om") er2 hps rfl
  refine sp_set_on (hG.trans F.keep) SG (by walk_at "rm") (fun p hp => ⟨F.keep _ _ (hN' p hp), (hN p hp).2⟩) nd X Sc V MD T P (by walk_at "om") hf hn hM (by walk_at "om") hpl2 (by rw [hS.rows _ _ hps _ (.head _)]; walk_at "om") ?_ ?_
  · rintro rfl h' le t
    exact fin_int (kn (by unfold seat; rw [hM, hg]; dsimp only; rw [hpl2]) _ (F.keep.trans le) _) rfl
  · rintro ax ay rfl h' ns' m le e ea hm Xh t
    exact ks p _ _ (by unfold seat; rw [hM, hg]; dsimp only; rw [hpl2]) h' ns' m ((offAll_mono F.keep).trans le) e ea hm Xh _
end
section
variable {prog : Program} {w : World} {s : Shared} {A : Around} {h : Heap} {G : PH} {mg mb : Str → Option Value} {env : Env}
theorem compIx_lt {m r : Row} {c : Nat} (hc : 0 < c) : compIx m r c < c := by unfold compIx; split <;> walk_at "om"
theorem sp_apply_component {sc b row tb md bd : Addr} {flag : Int} {vs : List Value} {ns : List (Addr × Obj)} {fs : List Inf} {f : Inf} {n : Nat} {M : Marks} {O : List (Int × List PRow)} {tn : Tok} {Q : Value → Heap → Prop}
    (hG : Le G h.get?) (S : Stat (hd.heap_39 w.params) mg mb G) (R : Rm A 12) (hN : ∀ p ∈ ns, h.get? p.1 = some p.2 ∧ G p.1 = none) (nd : (ns.map (·.1)).Nodup) (X : InfsAre G vs ns fs) (Sc : ScnG prog w G sc b row flag) (V : LstG G row vs)
    (TB : InstG G tb 317 [("marks", .ref md), ("ligatures", .ref bd)]) (MD : MapG OwnV prog w G md M) (BD : MapG PartsA prog w G bd O) (hS : Shp M O) (hri : ∀ f ∈ fs, 0 ≤ f.r.i)
    (hf : fs[n]? = some f) (hn : fs.length ≤ 100)
    (kn : seat M (goal1 (pas 8) (fs.map (·.r)) n O) f.r.g = none → ∀ h', Le h.get? h'.get? → ∀ t, Q (.int (-1) t) h')
    (ks : ∀ j dx dy, seat M (goal1 (pas 8) (fs.map (·.r)) n O) f.r.g = some (j, dx, dy) → ∀ h' ns' m, Le (offAll (ns.map (·.1)) h) h'.get? → (∀ p ∈ ns', h'.get? p.1 = some p.2) → ns'.map (·.1) = ns.map (·.1) → isMin m (clus fs j (n + 1)) →
      InfsAre G vs ns' (hangF j (n + 1) m (fs.set n { f with xo := dx, yo := dy, pa := (j : Int) - n, bo := "mark" })) → ∀ t, Q (.int (n + 1) t) h') :
    W prog w s A h (call (.ref 405) [.ref sc, .ref tb, .int n tn]) Q := by
  have hnl : n < fs.length := (List.getElem?_eq_some_iff.mp hf).1
  have hN' : ∀ p ∈ ns, h.get? p.1 = some p.2 := fun p hp => (hN p hp).1
  have J : RowsG h.get? row (fs.map (·.r)) := ⟨vs, V.mono hG, (X.mono hG).rows hN'⟩
  have hrl : (fs.map (·.r)).length ≤ 100 := by rw [List.length_map]; exact hn
  have er : (fs.map (·.r))[(n : Int).toNat]? = some f.r := by simp [hf]
  have I' := Sc.mono hG
  obtain ⟨gd, ls, lk, mk, dp, kd, tbs, bw, ll, tm, td, tk, u1, u2, h1, h2, h3, h4⟩ := id I'
  have SG := S
  replace S := S.mono hG
  have TB' := TB.mono hG
  have MD' := MD.mono (fun _ _ i => i.mono hG) hG
  have BD' := BD.mono (fun _ _ i => i.mono hG) hG
  have er' : (fs.map (·.r))[n]? = some f.r := er
  walk_at "enter"; intro L h₁ _ eE lL F
  repeat' walk_at "z"
  refine w_rowAt J (by walk_at "le") (by walk_at "om") hrl er ?_
  rintro x ⟨x', code, mask, un, lc, xa, ya, xo, yo, pa, bo, v1, v2, v3, v4, v5, e, ii⟩
  cases e
  unfold infoFs at ii
  repeat' walk_at "z"
  · rename Option.isSome _ = false => hb
    have hb : M.lookup f.r.g = none := by simpa using hb
    exact fin_int (kn (by unfold seat; rw [hb]) _ (by walk_at "le") _) rfl
  rename Option.isSome _ = true => hb
  obtain ⟨⟨c, ox, oy⟩, hM⟩ := Option.isSome_iff_exists.mp hb
  refine sp_scene_with (by walk_at "st") (by walk_at "rm") (h1.mono (by walk_at "le")) (h3.mono (by walk_at "le")) ?_
  intro h₂ k₂ sc' lk' tb' IL IS
  rename Fm _ _ _ _ _ => F
  obtain ⟨G1, le1, F1, q⟩ := (F.keeps k₂).stand
  replace IL := IL.stand F q
  replace IS := IS.stand F q
  have NS : ScnG prog w G1 sc' b row 8 := ⟨gd, ls, lk', mk, dp, kd, tb', bw, ll, tm, td, tk, _, _, IS, h2.mono le1, IL, h4.mono le1⟩
  clear F IL IS
  have J₀ := J
  have S₀ := S
  replace J := J.mono le1
  replace S := S.mono le1
  repeat' walk_at "z"
  refine sp_before_at (by walk_at "st") (by walk_at "rm") (NS.mono (by walk_at "le")) (J.mono (by walk_at "le")) (by walk_at "om") (by rw [List.length_map]; walk_at "om") hrl ?_
  walk_at "back"; intro t'
  have lt := back_lt (pas 8) (fs.map (·.r)) n
  simp only [Int.toNat_natCast]
  generalize hbj : back (pas 8) (fs.map (·.r)) n = j at lt ⊢
  repeat' walk_at "z"
  · exact fin_int (kn (by unfold seat; rw [hM, goal1_n1 hbj (by assumption)]) _ (by walk_at "le") _) rfl
  obtain ⟨p, rfl⟩ : ∃ p : Nat, j = p := ⟨j.toNat, by walk_at "om"⟩
  have hpl : p < (fs.map (·.r)).length := by rw [List.length_map]; walk_at "om"
  have hpl' : p < fs.length := by walk_at "om"
  have er2 : (fs.map (·.r))[p]? = some fs[p].r := by simp [hpl']
  have hri2 := hri _ (List.getElem_mem hpl')
  refine w_rowAt J (by walk_at "le") (by walk_at "om") hrl er2 ?_
  rintro y ⟨y', code', mask', un', lc', xa', ya', xo', yo', pa', bo', v1', v2', v3', v4', v5', e, jj⟩
  cases e
  unfold infoFs at jj
  repeat' walk_at "z"
  · rename Option.isSome _ = false => hb
    have hb : O.lookup fs[p].r.g = none := by simpa using hb
    exact fin_int (kn (by unfold seat; rw [hM, goal1_n2 hbj (by walk_at "om") er2 er' hb]) _ (by walk_at "le") _) rfl
  rename Option.isSome _ = true => hb
  obtain ⟨ps, hps⟩ := Option.isSome_iff_exists.mp hb
  have hfew := hS.few _ _ hps
  refine w_rowAt J (by walk_at "le") (by walk_at "om") hrl er2 ?_
  rintro z ⟨z', code2, mask2, un2, lc2, xa2, ya2, xo2, yo2, pa2, bo2, w1, w2, w3, w4, w5, e, kk⟩
  cases e
  unfold infoFs at kk
  repeat' walk_at "z"
  refine w_mapAt BD (hG.trans (by walk_at "le")) hps ?_
  rintro v ⟨la, us, rfl, TL, P⟩
  have TL' := TL.mono hG
  have hlen := P.length
  repeat' walk_at "z"
  · rename (_ : Int) = 0 => hb
    have : ps = [] := List.eq_nil_of_length_eq_zero (by walk_at "om")
    subst this
    exact fin_int (kn (by unfold seat; rw [hM, goal1_n3 hbj (by walk_at "om") er2 er' hps]) _ (by walk_at "le") _) rfl
  have hpn : ps ≠ [] := by
    rintro rfl
    rename ¬ (_ : Int) = 0 => hb
    rw [hlen] at hb; exact hb rfl
  have hp0 : 0 < us.length := by rw [hlen]; exact List.length_pos_iff.mpr hpn
  refine w_rowAt J (by walk_at "le") (by walk_at "om") hrl er ?_
  intro x2 Ix
  repeat' walk_at "z"
  refine w_rowAt J (by walk_at "le") (by walk_at "om") hrl er2 ?_
  intro y2 Iy
  repeat' walk_at "z"
  refine sp_component_of (by walk_at "st") (by walk_at "rm") (Ix.mono (by walk_at "le")) (Iy.mono (by walk_at "le")) hri2 hp0 ?_
  walk_at "back"; intro t2
  have hlt := compIx_lt (m := f.r) (r := fs[p].r) hp0
  have hlt' : compIx f.r fs[p].r us.length < ps.length := by walk_at "om"
  obtain ⟨prow, hrow⟩ : ∃ prow, ps[compIx f.r fs[p].r us.length]? = some prow := ⟨_, List.getElem?_eq_getElem hlt'⟩
  have hrm : prow ∈ ps := List.mem_of_getElem? hrow
  obtain ⟨av, eav, ra, vs', rfl, T, P2⟩ := prd_get P hrow
  obtain ⟨pl, hpl2⟩ := row_two (hS.rows _ _ hps _ hrm) (hS.cls _ _ _ _ hM)
  have hcc := hS.cls _ _ _ _ hM
  repeat' walk_at "z"
  refine w_subList TL' (by walk_at "le") (by walk_at "om") (by walk_at "om") eav ?_
  repeat' walk_at "z"
  rename Fm _ _ _ _ _ => F
  have hg : goal1 (pas 8) (fs.map (·.r)) n O = some (p, prow) := goal1_s hbj (by walk_at "om") er2 er' hps hpn (by rw [hlen]) hrow
  have Fk : Le h.get? _ := le1.trans F.keep
  refine sp_set_on (hG.trans Fk) SG (by walk_at "rm") (fun p hp => ⟨Fk _ _ (hN' p hp), (hN p hp).2⟩) nd X Sc V MD T P2 (by walk_at "om") hf hn hM (by walk_at "om") hpl2 (by rw [hS.rows _ _ hps _ hrm]; walk_at "om") ?_ ?_
  · rintro rfl h' le t
    exact fin_int (kn (by unfold seat; rw [hM, hg]; dsimp only; rw [hpl2]) _ (Fk.trans le) _) rfl
  · rintro ax ay rfl h' ns' m le e ea hm Xh t
    exact ks p _ _ (by unfold seat; rw [hM, hg]; dsimp only; rw [hpl2]) h' ns' m ((offAll_mono Fk).trans le) e ea hm Xh _
end
noncomputable def mflag (flag : Int) : Int := Builtin.bitAnd flag (Builtin.bitNot (Builtin.bitOr (Builtin.bitOr 2 4) 8))
section
variable {P : Row → Bool} {rs : List Row} {n : Nat} {O : List (Int × List PRow)} {j : Int} {r m : Row} {ps : List PRow} {row : PRow}
theorem goal2_n1 (e : back P rs n = j) (hj : j < 0) : goal2 P rs n O = none := by unfold goal2; rw [e, if_pos hj]
theorem goal2_n2 (e : back P rs n = j) (hj : 0 ≤ j) (er : rs[j.toNat]? = some r) (em : rs[n]? = some m) (hc : cls r.g ≠ 3) : goal2 P rs n O = none := by
  unfold goal2; rw [e, if_neg (by walk_at "om"), er, em]; dsimp only; rw [if_pos hc]
theorem goal2_n3 (e : back P rs n = j) (hj : 0 ≤ j) (er : rs[j.toNat]? = some r) (em : rs[n]? = some m) (hc : cls r.g = 3) (hl : O.lookup r.g = none) : goal2 P rs n O = none := by
  unfold goal2; rw [e, if_neg (by walk_at "om"), er, em]; dsimp only; rw [if_neg (by simp [hc]), hl]
theorem goal2_n4 (e : back P rs n = j) (hj : 0 ≤ j) (er : rs[j.toNat]? = some r) (em : rs[n]? = some m) (hc : cls r.g = 3) (ho : ofOne m r = false) : goal2 P rs n O = none := by
  unfold goal2; rw [e, if_neg (by walk_at "om"), er, em]; dsimp only; rw [if_neg (by simp [hc])]; cases O.lookup r.g with
  | none => rfl
  | some ps => dsimp only; rw [ho]; rfl
theorem goal2_s (e : back P rs n = j) (hj : 0 ≤ j) (er : rs[j.toNat]? = some r) (em : rs[n]? = some m) (hc : cls r.g = 3) (hl : O.lookup r.g = some ps) (ho : ofOne m r = true) (h0 : ps[0]? = some row) : goal2 P rs n O = some (j.toNat, row) := by
  unfold goal2; rw [e, if_neg (by walk_at "om"), er, em]; dsimp only; rw [if_neg (by simp [hc]), hl]; dsimp only; rw [ho, if_pos rfl, h0]; rfl
end
section
variable {prog : Program} {w : World} {s : Shared} {A : Around} {h : Heap} {G : PH} {mg mb : Str → Option Value} {env : Env}
theorem sp_apply_mark {sc b row tb md bd : Addr} {flag : Int} {vs : List Value} {ns : List (Addr × Obj)} {fs : List Inf} {f : Inf} {n : Nat} {M : Marks} {O : List (Int × List PRow)} {tn : Tok} {Q : Value → Heap → Prop}
    (hG : Le G h.get?) (S : Stat (hd.heap_39 w.params) mg mb G) (R : Rm A 12) (hN : ∀ p ∈ ns, h.get? p.1 = some p.2 ∧ G p.1 = none) (nd : (ns.map (·.1)).Nodup) (X : InfsAre G vs ns fs) (Sc : ScnG prog w G sc b row flag) (V : LstG G row vs)
    (TB : InstG G tb 345 [("marks", .ref md), ("others", .ref bd)]) (MD : MapG OwnV prog w G md M) (BD : MapG ARowV prog w G bd (firsts O)) (hS : Shp M O) (hO : ∀ g ps, O.lookup g = some ps → ps.length = 1)
    (hf : fs[n]? = some f) (hn : fs.length ≤ 100)
    (kn : seat M (goal2 (pas (mflag flag)) (fs.map (·.r)) n O) f.r.g = none → ∀ h', Le h.get? h'.get? → ∀ t, Q (.int (-1) t) h')
    (ks : ∀ j dx dy, seat M (goal2 (pas (mflag flag)) (fs.map (·.r)) n O) f.r.g = some (j, dx, dy) → ∀ h' ns' m, Le (offAll (ns.map (·.1)) h) h'.get? → (∀ p ∈ ns', h'.get? p.1 = some p.2) → ns'.map (·.1) = ns.map (·.1) → isMin m (clus fs j (n + 1)) →
      InfsAre G vs ns' (hangF j (n + 1) m (fs.set n { f with xo := dx, yo := dy, pa := (j : Int) - n, bo := "mark" })) → ∀ t, Q (.int (n + 1) t) h') :
    W prog w s A h (call (.ref 419) [.ref sc, .ref tb, .int n tn]) Q := by
  have hnl : n < fs.length := (List.getElem?_eq_some_iff.mp hf).1
  have hN' : ∀ p ∈ ns, h.get? p.1 = some p.2 := fun p hp => (hN p hp).1
  have J : RowsG h.get? row (fs.map (·.r)) := ⟨vs, V.mono hG, (X.mono hG).rows hN'⟩
  have hrl : (fs.map (·.r)).length ≤ 100 := by rw [List.length_map]; exact hn
  have er : (fs.map (·.r))[(n : Int).toNat]? = some f.r := by simp [hf]
  have I' := Sc.mono hG
  obtain ⟨gd, ls, lk, mk, dp, kd, tbs, bw, ll, tm, td, tk, u1, u2, h1, h2, h3, h4⟩ := id I'
  have SG := S
  replace S := S.mono hG
  have TB' := TB.mono hG
  have MD' := MD.mono (fun _ _ i => i.mono hG) hG
  have BD' := BD.mono (fun _ _ i => i.mono hG) hG
  have er' : (fs.map (·.r))[n]? = some f.r := er
  walk_at "enter"; intro L h₁ _ eE lL F
  repeat' walk_at "z"
  refine w_rowAt J (by walk_at "le") (by walk_at "om") hrl er ?_
  rintro x ⟨x', code, mask, un, lc, xa, ya, xo, yo, pa, bo, v1, v2, v3, v4, v5, e, ii⟩
  cases e
  unfold infoFs at ii
  repeat' walk_at "z"
  · rename Option.isSome _ = false => hb
    have hb : M.lookup f.r.g = none := by simpa using hb
    exact fin_int (kn (by unfold seat; rw [hb]) _ (by walk_at "le") _) rfl
  rename Option.isSome _ = true => hb
  obtain ⟨⟨c, ox, oy⟩, hM⟩ := Option.isSome_iff_exists.mp hb
  refine sp_scene_with (by walk_at "st") (by walk_at "rm") (h1.mono (by walk_at "le")) (h3.mono (by walk_at "le")) ?_
  intro h₂ k₂ sc' lk' tb' IL IS
  rename Fm _ _ _ _ _ => F
  obtain ⟨G1, le1, F1, q⟩ := (F.keeps k₂).stand
  replace IL := IL.stand F q
  replace IS := IS.stand F q
  have NS : ScnG prog w G1 sc' b row (mflag flag) := ⟨gd, ls, lk', mk, dp, kd, tb', bw, ll, tm, td, tk, _, _, IS, h2.mono le1, IL, h4.mono le1⟩
  clear F IL IS
  have J₀ := J
  have S₀ := S
  replace J := J.mono le1
  replace S := S.mono le1
  repeat' walk_at "z"
  refine sp_before_at (by walk_at "st") (by walk_at "rm") (NS.mono (by walk_at "le")) (J.mono (by walk_at "le")) (by walk_at "om") (by rw [List.length_map]; walk_at "om") hrl ?_
  walk_at "back"; intro t'
  have lt := back_lt (pas (mflag flag)) (fs.map (·.r)) n
  simp only [Int.toNat_natCast]
  generalize hbj : back (pas (mflag flag)) (fs.map (·.r)) n = j at lt ⊢
  repeat' walk_at "z"
  · exact fin_int (kn (by unfold seat; rw [hM, goal2_n1 hbj (by assumption)]) _ (by walk_at "le") _) rfl
  obtain ⟨p, rfl⟩ : ∃ p : Nat, j = p := ⟨j.toNat, by walk_at "om"⟩
  have hpl : p < (fs.map (·.r)).length := by rw [List.length_map]; walk_at "om"
  have hpl' : p < fs.length := by walk_at "om"
  have er2 : (fs.map (·.r))[(p : Int).toNat]? = some fs[p].r := by simp [hpl']
  refine sp_is_mark_at (by walk_at "st") (by walk_at "rm") (I'.mono (by walk_at "le")) (J.mono (by walk_at "le")) (by walk_at "om") hrl er2 ?_
  walk_at "back"
  repeat' walk_at "z"
  · exact fin_int (kn (by unfold seat; rw [hM, goal2_n2 hbj (by walk_at "om") er2 er' (by assumption)]) _ (by walk_at "le") _) rfl
  have hc3 : cls fs[p].r.g = 3 := by walk_at "om"
  refine w_rowAt J (by walk_at "le") (by walk_at "om") hrl er ?_
  intro x2 Ix
  repeat' walk_at "z"
  refine w_rowAt J (by walk_at "le") (by walk_at "om") hrl er2 ?_
  intro y2 Iy
  repeat' walk_at "z"
  refine sp_are_of_one (by walk_at "st") (by walk_at "rm") (Ix.mono (by walk_at "le")) (Iy.mono (by walk_at "le")) ?_
  walk_at "back"
  repeat' walk_at "z"
  · exact fin_int (kn (by unfold seat; rw [hM, goal2_n4 hbj (by walk_at "om") er2 er' hc3 (by assumption)]) _ (by walk_at "le") _) rfl
  have ho1 : ofOne f.r fs[p].r = true := by assumption
  refine w_rowAt J (by walk_at "le") (by walk_at "om") hrl er2 ?_
  rintro y ⟨y', code', mask', un', lc', xa', ya', xo', yo', pa', bo', v1', v2', v3', v4', v5', e, jj⟩
  cases e
  unfold infoFs at jj
  repeat' walk_at "z"
  · rename Option.isSome _ = false => hb
    rw [firsts_lookup, Option.isSome_map] at hb
    have hb : O.lookup fs[p].r.g = none := by simpa using hb
    exact fin_int (kn (by unfold seat; rw [hM, goal2_n3 hbj (by walk_at "om") er2 er' hc3 hb]) _ (by walk_at "le") _) rfl
  rename Option.isSome _ = true => hb
  rw [firsts_lookup, Option.isSome_map] at hb
  obtain ⟨ps, hps⟩ := Option.isSome_iff_exists.mp hb
  obtain ⟨prow, rfl⟩ : ∃ row, ps = [row] := List.length_eq_one_iff.mp (hO _ _ hps)
  obtain ⟨pl, hpl2⟩ := row_two (hS.rows _ _ hps _ (.head _)) (hS.cls _ _ _ _ hM)
  have hcc := hS.cls _ _ _ _ hM
  refine w_rowAt J (by walk_at "le") (by walk_at "om") hrl er2 ?_
  rintro z ⟨z', code2, mask2, un2, lc2, xa2, ya2, xo2, yo2, pa2, bo2, w1, w2, w3, w4, w5, e, kk⟩
  cases e
  unfold infoFs at kk
  repeat' walk_at "z"
  refine w_mapAt (x := prow) BD (hG.trans (by walk_at "le")) (by rw [firsts_lookup, hps]; rfl) ?_
  rintro v ⟨ra, us, rfl, T, P⟩
  repeat' walk_at "z"
  rename Fm _ _ _ _ _ => F
  have hg : goal2 (pas (mflag flag)) (fs.map (·.r)) n O = some (p, prow) := goal2_s hbj (by walk_at "om") er2 er' hc3 hps ho1 rfl
  have Fk : Le h.get? _ := le1.trans F.keep
  refine sp_set_on (hG.trans Fk) SG (by walk_at "rm") (fun p hp => ⟨Fk _ _ (hN' p hp), (hN p hp).2⟩) nd X Sc V MD T P (by walk_at "om") hf hn hM (by walk_at "om") hpl2 (by rw [hS.rows _ _ hps _ (.head _)]; walk_at "om") ?_ ?_
  · rintro rfl h' le t
    exact fin_int (kn (by unfold seat; rw [hM, hg]; dsimp only; rw [hpl2]) _ (Fk.trans le) _) rfl
  · rintro ax ay rfl h' ns' m le e ea hm Xh t
    exact ks p _ _ (by unfold seat; rw [hM, hg]; dsimp only; rw [hpl2]) h' ns' m ((offAll_mono Fk).trans le) e ea hm Xh _
end
/-- the law's source of draws -/
noncomputable def PenO (o : Obj) (c : Addr) (n : Int) : Prop := ∃ gr st pl t1 t2 t3, LO o [.ref c, .int gr t1, .int st t2, .int pl t3] ∧ 0 ≤ pl ∧ pl ≤ n
noncomputable def CellsG (G : PH) (c : Addr) : Prop := ∃ vs ns, LstG G c vs ∧ IntsAre vs ns ∧ vs.length ≤ 48
theorem CellsG.mono {G G' : PH} {c : Addr} (I : CellsG G c) (k : Le G G') : CellsG G' c := let ⟨vs, ns, i, j⟩ := I; ⟨vs, ns, i.mono k, j⟩
theorem ints_get {vs : List Value} {ns : List Int} (x : IntsAre vs ns) : ∀ {i : Nat}, i < vs.length → ∃ n t, vs[i]? = some (.int n t) := by
  induction x with
  | nil => intro i h; simp at h
  | cons n t _ ih =>
    intro i h
    cases i with
    | zero => exact ⟨n, t, rfl⟩
    | succ i => simpa using ih (by simpa using h)
section
variable {prog : Program} {w : World} {s : Shared} {A : Around} {h : Heap} {G : PH} {L : Addr} {N : List (Addr × Obj)} {l : List (Str × Value)} {o : Obj} {g : Obj → List (Addr × Obj)} {mg mb : Str → Option Value}
theorem w_draw {p c : Addr} {n limit : Int} {t : Tok} {Q : Value → Heap → Prop} (F : Fm G L N h l) (P : PenO o c n) (k : ∀ h' o' d t, PenO o' c (n + 1) → 0 ≤ d → d < limit → Fm G L (g o') h' l → Q (.int d t) h')
    (S : Stat (hd.heap_39 w.params) mg mb G := by walk_at "st") (R : Rm A 2 := by walk_at "rm") (U : AtF p o N g := by walk_at "atf") (C : CellsG G c := by first | assumption | exact CellsG.mono (by assumption) (by walk_at "le")) (hl : 0 < limit := by decide) (hl2 : limit ≤ 1000 := by decide) (hn : n ≤ 100000 := by walk_at "om") : W prog w s A h (call (.ref 568) [.ref p, .int limit t]) Q := by
  refine F.lendK ?_
  intro oL hN nd back
  obtain ⟨gr, st, pl, t1, t2, t3, D, p0, p1⟩ := P
  obtain ⟨vs, ns, CL, CI, Cn⟩ := C
  have hG := F.keep
  clear F
  walk_at "enterN"; intro L' h₁ _ eE lL F
  repeat' walk_at "z"
  rename Fm _ _ _ _ _ => F
  refine w_setList F (AtF.tail U) D (by walk_at "om") (by walk_at "om") (by simp) ?_
  clear F
  intro o₁ h₂ D₁ F
  replace D₁ : LO o₁ [.ref c, .int gr t1, .int st t2, .int (pl + 1) _] := D₁
  have U₁ := U.again o₁
  repeat' walk_at "z"
  · rename Fm _ _ _ _ _ => F
    refine w_setList F (AtF.tail U₁) D₁ (by walk_at "om") (by walk_at "om") (by simp) ?_
    clear F
    intro o₂ h₃ D₂ F
    replace D₂ : LO o₂ [.ref c, .int (gr / limit) _, .int st t2, .int (pl + 1) _] := D₂
    repeat' walk_at "z"
    exact k _ o₂ _ _ ⟨_, _, _, _, _, _, D₂, by walk_at "om", by walk_at "om"⟩ (Int.emod_nonneg _ (by walk_at "om")) (Int.emod_lt_of_pos _ hl) (back _ _ _ _ _ (Le.refl _) F)
  · rename Fm _ _ _ _ _ => F
    refine w_setList F (AtF.tail U₁) D₁ (by walk_at "om") (by walk_at "om") (by simp) ?_
    clear F
    intro o₂ h₃ D₂ F
    replace D₂ : LO o₂ [.ref c, .int gr t1, .int ((st * 16807 + pl * pl + 7) % 2147483647) _, .int (pl + 1) _] := D₂
    have U₂ := U₁.again o₂
    repeat' walk_at "z"
    · rename pl < _ => hp
      obtain ⟨y, ty, hy⟩ := ints_get CI (i := pl.toNat) (by walk_at "om")
      rename Fm _ _ _ _ _ => F
      refine w_subList CL (Fm.keep F) p0 (by walk_at "om") hy ?_
      repeat' walk_at "z"
      exact k _ o₂ _ _ ⟨_, _, _, _, _, _, D₂, by walk_at "om", by walk_at "om"⟩ (Int.emod_nonneg _ (by walk_at "om")) (Int.emod_lt_of_pos _ hl) (back _ _ _ _ _ (Le.refl _) F)
    · rename Fm _ _ _ _ _ => F
      exact k _ o₂ _ _ ⟨_, _, _, _, _, _, D₂, by walk_at "om", by walk_at "om"⟩ (Int.emod_nonneg _ (by walk_at "om")) (Int.emod_lt_of_pos _ hl) (back _ _ _ _ _ (Le.refl _) F)
end
local macro_rules | `(tactic| walk_at "zk") => `(tactic| ((fail_if_success (with_reducible show W _ _ _ _ _ (execs (Stmt.Assign [Expr.Name (Str.ofString "kind") _] _ _ :: _) _) _)); walk_at "z"))
theorem PenO.le {o : Obj} {c : Addr} {n m : Int} (P : PenO o c n) (h : n ≤ m) : PenO o c m := let ⟨gr, st, pl, t1, t2, t3, D, a, b⟩ := P; ⟨gr, st, pl, t1, t2, t3, D, a, by walk_at "om"⟩
noncomputable def kinds : List Str := ["", "zwj", "zwnj", "hidden"]
structure ROk (r : Row) : Prop where
  g0 : 0 ≤ r.g
  g1 : r.g < 9
  i : r.i = 0 ∨ r.i = 1 ∨ r.i = 2
  p : r.p = 0 ∨ r.p = 1 ∨ r.p = 2
  k : r.k ∈ kinds
theorem kind_at {t0 t1 t2 t3 t4 t5 t6 : Tok} {d : Int} (h0 : 0 ≤ d) (h1 : d < 7) : ∃ s t, [Value.str "" t0, .str "" t1, .str "" t2, .str "" t3, .str "zwj" t4, .str "zwnj" t5, .str "hidden" t6][d.toNat]? = some (.str s t) ∧ s ∈ kinds := by
  obtain rfl | rfl | rfl | rfl | rfl | rfl | rfl : d = 0 ∨ d = 1 ∨ d = 2 ∨ d = 3 ∨ d = 4 ∨ d = 5 ∨ d = 6 := by walk_at "om"
  all_goals exact ⟨_, _, rfl, by simp [kinds]⟩
theorem Fm.headOff {G : PH} {L b : Addr} {o : Obj} {M : List (Addr × Obj)} {h : Heap} {l : List (Str × Value)} (F : Fm G L ((b, o) :: M) h l) : offAll (L :: M.map (·.1)) h b = some o := by
  have z := F.nw _ (.head _)
  have nd := F.nd
  rw [List.map_cons, List.nodup_cons] at nd
  rw [offAll_out]
  · exact z.1
  · intro q
    rcases List.mem_cons.mp q with q | q
    · exact z.2.2 q
    · exact nd.1 q
theorem row_next {G : PH} {L b : Addr} {M : List (Addr × Obj)} {h : Heap} {l : List (Str × Value)} {t1 t2 t3 t4 t5 : Tok} {r : Row} {vs : List Value} {rs : List Row} {k : Nat}
    (F : Fm G L ((b, { cls := .type "tuple", data := .seq [.int r.g t1, .int r.i t2, .int r.p t3, .str r.k t4, .int r.c t5].toArray k }) :: M) h l) (V : Paired (RowT G) vs rs) : Paired (RowT (offAll (L :: M.map (·.1)) h)) (vs ++ [.ref b]) (rs ++ [r]) :=
  (prd_mono V fun _ _ i => i.mono F.drop.rebase.1).snoc ⟨b, _, _, _, _, _, rfl, TupG.of F.headOff⟩
section
variable {prog : Program} {w : World} {s : Shared} {A : Around} {h : Heap} {G : PH} {L : Addr} {N : List (Addr × Obj)} {l : List (Str × Value)} {o : Obj} {g : Obj → List (Addr × Obj)} {mg mb : Str → Option Value}
theorem w_kindAt {a : Addr} {e i : Expr} {t0 t1 t2 t3 t4 t5 t6 td : Tok} {d : Int} {Q : Value → Heap → Prop} (F : Fm G L N h l) (U : AtF a o N g) (D : LO o [Value.str "" t0, .str "" t1, .str "" t2, .str "" t3, .str "zwj" t4, .str "zwnj" t5, .str "hidden" t6]) (h0 : 0 ≤ d) (h1 : d < 7) (k : ∀ s t, s ∈ kinds → Q (.str s t) h)
    (hs : subscripted i false (.ref a) (.int d td) = operate [.ref a, .int d td] (getItem (.ref a) (.int d td)) := by with_unfolding_all rfl) : W prog w s A h (subscriptTail e i (.ref a) (.int d td)) Q := by
  obtain ⟨s, t, e, m⟩ := kind_at (t0 := t0) (t1 := t1) (t2 := t2) (t3 := t3) (t4 := t4) (t5 := t5) (t6 := t6) h0 h1
  exact w_subLed F U D h0 (by walk_at "om") e (k _ _ m) hs
theorem w_rows {p c : Addr} {n : Int} {Q : Value → Heap → Prop} (F : Fm G L N h l) (S : Stat (hd.heap_39 w.params) mg mb G) (R : Rm A 4) (U : AtF p o N g) (P : PenO o c n) (C : CellsG G c) (n0 : 0 ≤ n) (hn : n ≤ 1000)
    (k : ∀ h' o' G' a rs, Le G G' → PenO o' c (n + 100) → TblG G' a rs → (∀ r ∈ rs, ROk r) → 0 < rs.length → rs.length ≤ 7 → Fm G' L (g o') h' l → Q (.ref a) h') : W prog w s A h (call (.ref 578) [.ref p]) Q := by
  refine F.lendK ?_
  intro oL hN nd back
  have hG := F.keep
  clear F
  walk_at "enterN"; intro L' h₁ _ eE lL F
  repeat' walk_at "z"
  refine w_forRange ?_
  repeat' walk_at "z"
  walk_at "draw"
  intro h₁ o₁ d t P d0 d1 F
  repeat' walk_at "z"
  rename Fm _ _ _ _ _ => F
  refine w_range1 ?_
  walk_at "back"
  intro r hr
  rename Fm _ _ _ _ _ => F
  have D : PL _ [] := PL.new (vs := []) (n := 0)
  refine ⟨r, 0, _, 1, (1 + d).toNat, G, L', _, _, fun i G' N' l' => ∃ o' ol rs vs rl, N' = (rl, ol) :: (L, oL) :: g o' ∧ PenO o' c (n + 1 + 6 * i) ∧ PL ol vs ∧ Paired (RowT G') vs rs ∧ rs.length = i ∧ (∀ r ∈ rs, ROk r) ∧
    Has (al l') [("rows", .ref rl), ("pen", .ref p)], rfl, by walk_at "hh", hr, ?_, ?_, F, ⟨_, _, [], [], _, rfl, P.le (by walk_at "om"), D, .nil, rfl, (fun _ hr => nomatch hr), ⟨rfl, rfl, trivial⟩⟩, ?_, ?_⟩
  · simp only [Builtin.Range.small, Builtin.Range.rangeFitsLong, Builtin.Range.rangeSize]; simp; walk_at "om"
  · simp only [Builtin.Range.rangeSize]; simp; walk_at "om"
  · rintro i v G' H N' l' h' hm ⟨u, rfl⟩ hG F' ⟨o', ol, rs, vs, rl, rfl, P, D, V, hv, K, hl⟩
    replace F' := F'.to _ hl
    refine F'.letK ?_
    clear F'
    intro l₁ F'
    replace S := S.mono hG
    replace C := C.mono hG
    have U' := U.again o'
    repeat' walk_at "z"
    walk_at "draw"
    intro h₁ o₁ gl tg P g0 g1 F
    have U₁ := U.again o₁
    repeat' walk_at "z"
    walk_at "draw"
    intro h₁ o₂ wy tw
    have U₂ := U.again o₂
    refine' (fun (tail : ∀ (h' : Heap) (o' : Obj) (li lp : Int) (ti tp : Tok), PenO o' c (n + 4 + 6 * i) → (li = 0 ∨ li = 1 ∨ li = 2) → (lp = 0 ∨ lp = 1 ∨ lp = 2) →
      Fm G' L' (H ++ (rl, ol) :: (L, oL) :: g o') h' [("lig_part", .int lp tp), ("lig_id", .int li ti), ("glyph", .int gl tg), ("place", .int (0 + (i : Int) * 1) u), ("rows", .ref rl), ("pen", .ref p)] → W prog w s _ h' (execs _ _) _) => ?main) ?tl
    case main =>
      intro P y0 y1 F
      repeat' walk_at "zk"
      all_goals try (walk_at "draw"; intro h₁ o₃ lp tl P l0 l1 F; have U₃ := U.again o₃; repeat' walk_at "zk")
      all_goals (
        rename Fm _ _ _ _ _ => F
        rename PenO _ _ _ => P
        exact tail _ _ _ _ _ _ (P.le (by walk_at "om")) (by walk_at "om") (by walk_at "om") (F.to _ ⟨rfl, rfl, rfl, rfl, rfl, rfl, trivial⟩))
    case tl =>
      intro h' o₃ li lp ti tp P hli hlp F
      have U₃ := U.again o₃
      repeat' walk_at "z"
      walk_at "draw"
      intro h₁ o₄ kd tk P k0 k1 F
      have U₄ := U.again o₄
      refine w_kindAt F AtF.head LO.new k0 k1 ?_
      intro ks kt kk
      repeat' walk_at "z"
      rename Fm _ _ _ _ _ => F
      replace F := F.drop
      refine w_appendPM F (by walk_at "atf") D ?_
      repeat' walk_at "z"
      walk_at "draw"
      intro h₁ o₅ gg tgg P gg0 gg1 F
      have U₅ := U.again o₅
      repeat' walk_at "z"
      all_goals try ((with_reducible show W _ _ _ _ _ (truthy _) _); (rename Fm _ _ _ _ _ => F); refine w_tlistL F (by walk_at "atf") D (by have := V.length; walk_at "om") ?_; repeat' walk_at "z")
      all_goals try ((with_reducible show W _ _ _ _ _ (subscriptTail _ _ _ _) _); (rename Fm _ _ _ _ _ => F); (rename List.isEmpty vs = false => hb)
                     have hv1 : 0 < vs.length := by
                       rcases vs with _ | ⟨_, _⟩
                       · cases hb
                       · simp
                     have hv2 := V.length
                     obtain ⟨v, ev, xa, t1, t2, t3, t4, t5, rfl, xt⟩ := prd_get V (i := rs.length - 1) (b := rs[rs.length - 1]) (by simp)
                     refine w_subListNeg (D.lo.lst (F.get (AtF.mem (by walk_at "atf")))) (Le.refl _) (by walk_at "om") (by walk_at "om") (by walk_at "om") (by rw [show ((-1 : Int) + vs.length).toNat = rs.length - 1 by walk_at "om"]; exact ev) ?_
                     repeat' walk_at "z")
      all_goals (
        rename Fm _ _ _ _ _ => F
        refine w_appendP F (by walk_at "atf") D (by rw [sizeLine_eq]; have := V.length; walk_at "om") ?_
        intro ol' h₂ D' F
        repeat' walk_at "z"
        refine ⟨_, _, F.drop, o₅, ol', rs ++ [⟨gl, _, _, ks, _⟩], _, rl, rfl, P.le (by walk_at "om"), D', row_next F V, by simp [hv], ?_, ⟨rfl, rfl, trivial⟩⟩
        intro r hr
        rcases List.mem_append.mp hr with hr | hr
        · exact K r hr
        · rw [List.mem_singleton.mp hr]
          exact ⟨g0, g1, hli, hlp, kk⟩)
  · rintro G' N' l' h' hG F' ⟨o', ol, rs, vs, rl, rfl, P, D, V, hv, K, hl⟩
    replace F' := F'.to _ hl
    refine F'.letK ?_
    clear F'
    intro l₁ F'
    repeat' walk_at "z"
    rename Fm _ _ _ _ _ => F
    refine F.settleK ?_
    intro G'' le F e
    exact k _ o' G'' rl rs (hG.trans le) (P.le (by walk_at "om")) ⟨vs, D.lo.lst e, prd_mono V fun _ _ i => i.mono le⟩ K (by walk_at "om") (by walk_at "om") (back _ _ _ _ _ (hG.trans le) F)
end
noncomputable def inf0 (r : Row) : Inf := ⟨r, false, 0, 0, 0, ""⟩
theorem InfsAre.snoc {G : PH} {vs : List Value} {ns : List (Addr × Obj)} {fs : List Inf} {x d : Addr} {o : Obj} {f : Inf} (X : InfsAre G vs ns fs) (e : G x = some (instObj 175 d)) (b : DI o f) : InfsAre G (vs ++ [.ref x]) (ns ++ [(d, o)]) (fs ++ [f]) := by
  induction X with
  | nil => exact .cons e b .nil
  | cons a c _ ih => exact .cons a c ih
section
variable {prog : Program} {w : World} {s : Shared} {A : Around} {h : Heap} {G : PH} {L : Addr} {N : List (Addr × Obj)} {l : List (Str × Value)} {o : Obj} {g : Obj → List (Addr × Obj)} {mg mb : Str → Option Value}
theorem w_infos {a : Addr} {rs : List Row} {Q : Value → Heap → Prop} (F : Fm G L N h l) (S : Stat (hd.heap_39 w.params) mg mb G) (R : Rm A 5) (J : TblG G a rs) (hn : rs.length ≤ 100)
    (k : ∀ h' G' al vs ns, Le G G' → LstG G' al vs → InfsAre G' vs ns (rs.map inf0) → Fm G' L (ns ++ N) h' l → Q (.ref al) h') : W prog w s A h (call (.ref 585) [.ref a]) Q := by
  refine F.lendK ?_
  intro oL hN nd back
  have hG := F.keep
  clear F
  obtain ⟨us, J, V⟩ := J
  have hv := V.length
  walk_at "enterN"; intro L' h₁ _ eE lL F
  repeat' walk_at "z"
  rename Fm _ _ _ _ _ => F
  rename Addr => ai
  have D : PL _ [] := PL.new (vs := []) (n := 0)
  refine w_forListT ?_
  repeat' walk_at "z"
  refine ⟨a, us, G, L', _, _, fun i G' N' l' => ∃ ol ns vs, N' = (ai, ol) :: (ns ++ (L, oL) :: N) ∧ PL ol vs ∧ InfsAre G' vs ns ((rs.take i).map inf0) ∧ Has (al l') [("infos", .ref ai)], rfl, by walk_at "hh", J, F, ⟨_, [], [], rfl, D, .nil, ⟨rfl, trivial⟩⟩, ?_, ?_⟩
  · rintro i v G' H N' l' h' hi hv hG F' ⟨ol, ns, vs, rfl, D, X, hl⟩
    replace F' := F'.to _ hl
    refine F'.letK ?_
    clear F'
    intro l₁ F'
    replace S := S.mono hG
    have hi' : i < rs.length := by walk_at "om"
    obtain ⟨v', ev, x, t1, t2, t3, t4, t5, rfl, xt⟩ := prd_get V (i := i) (b := rs[i]) (by simp [hi'])
    have hv' : v = .ref x := by rw [ev] at hv; cases hv; rfl
    subst hv'
    replace xt := xt.mono hG
    repeat' walk_at "z"
    rename Fm _ _ _ _ _ => F
    refine sp_Info (by walk_at "st") (by walk_at "rm") ?_
    intro h₃ xi le u1 u2 u3 u4 u5 u6 u7 u8 u9 u10 u11 I
    refine I.takeK F le ?_
    intro G'' d od le' ex Dd F₂
    clear F le I
    replace S := S.mono le'
    repeat' walk_at "z"
    rename Fm _ _ _ _ _ => F
    rename DF _ _ => Dd
    have hl1 := X.len.1
    rw [List.length_map, List.length_take] at hl1
    refine w_appendPM F (by walk_at "atf") D ?_
    repeat' walk_at "z"
    refine w_appendP F (by walk_at "atf") D (by rw [sizeLine_eq]; walk_at "om") ?_
    intro ol' h₄ D' F
    repeat' walk_at "z"
    have F₄ := F.perm (perm_in (d, _) (ai, ol') H ns ((L, oL) :: N))
    refine ⟨_, _, F₄.less le', ol', ns ++ [(d, _)], vs ++ [.ref xi], rfl, D', ?_, ⟨rfl, trivial⟩⟩
    have et : (rs.take (i + 1)).map inf0 = (rs.take i).map inf0 ++ [inf0 rs[i]] := by rw [← List.take_append_getElem hi', List.map_append]; rfl
    rw [et]
    exact (X.mono (le'.trans F₄.rebase.1)).snoc (F₄.rebase.1 _ _ ex) ⟨_, Dd, _, _, _, _, _, _, _, _, _, _, _, _, _, _, rfl⟩
  · rintro G' N' l' h' hG F' ⟨ol, ns, vs, rfl, D, X, hl⟩
    replace F' := F'.to _ hl
    refine F'.letK ?_
    clear F'
    intro l₁ F'
    repeat' walk_at "z"
    rename Fm _ _ _ _ _ => F
    refine F.settleK ?_
    intro G'' le F e
    rw [hv, List.take_length] at X
    exact k _ G'' _ vs ns (hG.trans le) (D.lo.lst e) (X.mono le) (back _ _ _ _ _ (hG.trans le) (F.perm (by simpa using List.perm_middle.symm)))
end
theorem ints_take {vs : List Value} {ns : List Int} (x : IntsAre vs ns) : ∀ n, IntsAre (vs.take n) (ns.take n) := by
  induction x with
  | nil => intro n; simpa using IntsAre.nil
  | cons a t _ ih =>
    intro n
    cases n with
    | zero => exact .nil
    | succ n => exact .cons a t (ih n)
theorem ints_len {vs : List Value} {ns : List Int} (x : IntsAre vs ns) : vs.length = ns.length := by
  induction x with
  | nil => rfl
  | cons _ _ _ ih => simp [ih]
theorem ints_at {vs : List Value} {ns : List Int} (x : IntsAre vs ns) : ∀ {i : Nat} {v : Value}, vs[i]? = some v → ∃ n t, v = .int n t ∧ ns[i]? = some n := by
  induction x with
  | nil => intro i v e; simp at e
  | cons a t _ ih =>
    intro i v e
    cases i with
    | zero => simp at e; subst e; exact ⟨a, t, rfl, rfl⟩
    | succ i => simpa using ih (by simpa using e)
theorem ints_snoc' {vs : List Value} {ns : List Int} (x : IntsAre vs ns) (n : Int) (t : Tok) : IntsAre (vs ++ [.int n t]) (ns ++ [n]) := by
  induction x with
  | nil => exact .cons n t .nil
  | cons a u _ ih => exact .cons a u ih
section
variable {prog : Program} {w : World} {s : Shared} {A : Around} {h : Heap} {G : PH} {L : Addr} {N : List (Addr × Obj)} {l : List (Str × Value)} {o : Obj} {g : Obj → List (Addr × Obj)} {mg mb : Str → Option Value}
theorem w_pen {a : Addr} {vs : List Value} {ns : List Int} {Q : Value → Heap → Prop} (F : Fm G L N h l) (S : Stat (hd.heap_39 w.params) mg mb G) (R : Rm A 4) (I : LstG G a vs) (hi : IntsAre vs ns) (hn : vs.length ≤ 100)
    (k : ∀ h' G' p o c, Le G G' → CellsG G' c → PenO o c 0 → Fm G' L ((p, o) :: N) h' l → Q (.ref p) h') : W prog w s A h (call (.ref 561) [.ref a]) Q := by
  refine F.lendK ?_
  intro oL hN nd back
  have hG := F.keep
  clear F
  walk_at "enterN"; intro L' h₁ _ eE lL F
  refine w_assignComp (L := L') rfl rfl (by decide) rfl (by decide) rfl rfl rfl rfl ?_
  refine w_slice ?_
  repeat' walk_at "z"
  refine ⟨a, vs, none, some 48, G, G, L', (L, oL) :: N, _, rfl, I, F.keep, F, by rw [sizeLine_eq]; walk_at "om", .none, .int _ _, ?_⟩
  intro st o h₂ F kz D
  refine F.settleK ?_
  intro G2 le2 F e2
  have SL := D.lst e2
  have hst : (vs.drop 0).take (clipAt vs.length 48 - 0) = vs.take 48 := by
    rw [show clipAt vs.length 48 = min 48 vs.length from clipAt_nat ..]
    simp only [List.drop_zero, Nat.sub_zero]
    by_cases q : 48 ≤ vs.length
    · rw [Nat.min_eq_left q]
    · rw [Nat.min_eq_right (by walk_at "om"), List.take_length, List.take_of_length_le (by walk_at "om")]
  simp only [Option.elim] at SL
  rw [hst] at SL
  replace hi := ints_take hi 48
  have hl48 : (vs.take 48).length ≤ 48 := by rw [List.length_take]; walk_at "om"
  generalize vs.take 48 = us at *
  generalize ns.take 48 = ms at *
  replace S := S.mono le2
  refine (src_list (by walk_at "hh") SL F).mono ?_
  rintro it h₃ ⟨le3, X3⟩
  refine ⟨G2, _, _, _, _, fun i G' N' ys => N' = (L, oL) :: N ∧ IntsAre ys (ms.take i), X3, by rw [sizeLine_eq]; walk_at "om", ⟨rfl, .nil⟩, ?_, ?_⟩
  · rintro i v G' C H N' ys h' hi' hv hG F' ⟨rfl, hy⟩
    obtain ⟨n, t, rfl, en⟩ := ints_at hi hv
    replace S := S.mono hG
    repeat' walk_at "z"
    refine w_intOf ?_
    exact ⟨_, _, F', rfl, by rw [List.take_add_one, en]; exact ints_snoc' hy _ _⟩
  rintro G' c o' N' ys h' hG3 F' D' hl ⟨rfl, hy⟩
  refine F'.settleK ?_
  intro G3 le3 F e3
  have le4 := le3
  replace le3 := (le2.trans hG3).trans le3
  have YL := D'.lst e3
  rw [ints_len hi, List.take_length] at hy
  have CC : CellsG G3 c := ⟨ys, ms, YL, hy, by walk_at "om"⟩
  replace S : Stat (hd.heap_39 w.params) mg mb G3 := S.mono (hG3.trans le4)
  repeat' walk_at "z"
  have hy0 : 0 < ys.length := by
    rename List.isEmpty ys = false => hb
    rcases ys with _ | ⟨_, _⟩
    · cases hb
    · simp
  obtain ⟨n0, t0, e0⟩ := ints_get hy (i := 0) hy0
  refine w_subList YL (by walk_at "le") (by walk_at "om") (by walk_at "om") e0 ?_
  repeat' walk_at "z"
  refine w_abs ?_
  intro u
  repeat' walk_at "z"
  refine w_pow (by decide) (by decide) (by decide) ?_
  intro u'
  repeat' walk_at "z"
  refine w_subList YL (by walk_at "le") (by walk_at "om") (by walk_at "om") e0 ?_
  repeat' walk_at "z"
  refine w_abs ?_
  intro u
  repeat' walk_at "z"
  refine w_pow (by decide) (by decide) (by decide) ?_
  intro u'
  refine w_mod ?_ (Int.pow_pos (by decide))
  intro u''
  repeat' walk_at "z"
  all_goals (
    refine w_forList ?_
    repeat' walk_at "z"
    rename Fm _ _ _ _ _ => F
    refine ⟨c, ys, G3, L', _, _, fun i G' N' l' => N' = (L, oL) :: N ∧ ∃ st gr ts tg, Has (al l') [("state", .int st ts), ("cells", .ref c), ("great", .int gr tg)], rfl, by walk_at "hh", YL, F, ⟨rfl, _, _, _, _, ⟨rfl, rfl, rfl, trivial⟩⟩, ?_, ?_⟩
    · rintro i v G' H N' l' h' hi hv hG F' ⟨rfl, st, gr, ts, tg, hl⟩
      obtain ⟨n, t, rfl, _⟩ := ints_at hy hv
      replace F' := F'.to _ hl
      refine F'.letK ?_
      clear F'
      intro l₁ F'
      replace S := S.mono hG
      repeat' walk_at "z"
      rename Fm _ _ _ _ _ => F
      exact ⟨_, _, F, rfl, _, _, _, _, ⟨rfl, rfl, rfl, trivial⟩⟩
    · rintro G' N' l' h' hG F' ⟨rfl, st, gr, ts, tg, hl⟩
      replace F' := F'.to _ hl
      refine F'.letK ?_
      clear F'
      intro l₁ F'
      replace S := S.mono hG
      repeat' walk_at "z"
      rename Fm _ _ _ _ _ => F
      exact k _ G' _ _ c (le3.trans hG) (CC.mono hG) ⟨_, _, _, _, _, _, LO.new, by walk_at "om", by walk_at "om"⟩ (back _ _ _ _ _ (le3.trans hG) (F.perm (List.Perm.swap ..))))
end
structure LawRec (P : Params) where
  name : Str
  qual : Str
  params : Arguments
  body : List Stmt
  scope : Scope
  dV : Value
  kV : Value
  doc : Value
  pm : Value
  an : Option Addr
  cdv : Value
  ct : Value
  oc : Value
  od : Option Addr
  osl : Array (Option Value)
  ok : (hd.heap_39 P).lookup 625 = some ⟨oc, od, .func (fnOf name qual params body scope dV kV doc pm an cdv ct), osl⟩
noncomputable def lawRec (P : Params) : LawRec P := by
  exact LawRec.mk _ _ _ _ _ _ _ _ _ _ _ _ _ _ _ (by k_is)
noncomputable def p0 : Params := { strHash := fun _ => 0, shareClass := fun _ => 0, mergeTok := fun t => t, idOf := fun a => a, idOfShared := fun _ _ => 0, followText := fun _ => true, idOfImm := fun _ => 0 }
noncomputable def lawBody : List Stmt := (lawRec p0).body
noncomputable def lawScope : Scope := (lawRec p0).scope
noncomputable def lawCode : Value := (lawRec p0).cdv
noncomputable def lawEnv (fa : Addr) (cd : Value) (L c1 c2 c3 c4 : Addr) : Env := { scope := lawScope, locals := L, globals := mainGlobals, cells := [("held", c4), ("others", c3), ("marks", c2), ("pen", c1)], qual := "law.<locals>.", func := some fa, code := cd, frame := some L, builtins := builtinsNs }
theorem Fm.up2 {G : PH} {L : Addr} {a b : Addr × Obj} {N : List (Addr × Obj)} {h : Heap} {l : List (Str × Value)} (F : Fm G L (a :: b :: N) h l) : Fm G L (b :: a :: N) h l := F.perm (List.Perm.swap _ _ _)
theorem Fm.up3 {G : PH} {L : Addr} {a b c : Addr × Obj} {N : List (Addr × Obj)} {h : Heap} {l : List (Str × Value)} (F : Fm G L (a :: b :: c :: N) h l) : Fm G L (c :: a :: b :: N) h l := F.perm ((List.Perm.swap _ _ _).trans ((List.Perm.swap _ _ _).cons _))
noncomputable def flags : List Int := [0, 8, 16, 256, 512, 2]
section
variable {fa : Addr} {cd : Value} {prog : Program} {w : World} {s : Shared} {A : Around} {h : Heap} {G : PH} {L : Addr} {N : List (Addr × Obj)} {l : List (Str × Value)} {o : Obj} {g : Obj → List (Addr × Obj)} {mg mb : Str → Option Value}
theorem w_flagAt {a : Addr} {e i : Expr} {t0 t1 t2 t3 t4 t5 td : Tok} {d : Int} {Q : Value → Heap → Prop} (F : Fm G L N h l) (U : AtF a o N g) (D : LO o [Value.int 0 t0, .int 8 t1, .int 16 t2, .int 256 t3, .int 512 t4, .int 2 t5]) (h0 : 0 ≤ d) (h1 : d < 6) (k : ∀ f t, f ∈ flags → Q (.int f t) h)
    (hs : subscripted i false (.ref a) (.int d td) = operate [.ref a, .int d td] (getItem (.ref a) (.int d td)) := by with_unfolding_all rfl) : W prog w s A h (subscriptTail e i (.ref a) (.int d td)) Q := by
  have : ∃ f t, [Value.int 0 t0, .int 8 t1, .int 16 t2, .int 256 t3, .int 512 t4, .int 2 t5][d.toNat]? = some (.int f t) ∧ f ∈ flags := by
    obtain rfl | rfl | rfl | rfl | rfl | rfl : d = 0 ∨ d = 1 ∨ d = 2 ∨ d = 3 ∨ d = 4 ∨ d = 5 := by walk_at "om"
    all_goals exact ⟨_, _, rfl, by simp [flags]⟩
  obtain ⟨f, t, e, m⟩ := this
  exact w_subLed F U D h0 (by walk_at "om") e (k _ _ m) hs
theorem law_p0 {a c1 c2 c3 c4 : Addr} {o1 o2 o3 o4 : Obj} {vs : List Value} {ns : List Int} {Q : Flow → Heap → Prop} (F : Fm G L [(c1, o1), (c2, o2), (c3, o3), (c4, o4)] h [("script", .ref a)]) (d1 : o1.data = .cell none) (d2 : o2.data = .cell none)
    (S : Stat (hd.heap_39 w.params) mg mb G) (R : Rm A 20) (I : LstG G a vs) (hi : IntsAre vs ns) (hn : vs.length ≤ 100)
    (k : ∀ h' G' p o c way tw ra rs flag tf md dm, Le G G' → CellG G' c1 (.ref p) → CellG G' c2 (.ref md) → CellsG G' c → PenO o c 1000 → 0 ≤ way → way < 3 → TblG G' ra rs → (∀ r ∈ rs, ROk r) → 0 < rs.length → rs.length ≤ 7 → flag ∈ flags →
      Obj.IsDictOf (intKind prog w) dm [] → (md == sysModules) = false → Fm G' L [(md, dm), (p, o), (c3, o3), (c4, o4)] h' [("way", .int way tw), ("rows", .ref ra), ("flag", .int flag tf)] → W prog w s A h' (execs (lawBody.drop 5) (lawEnv fa cd L c1 c2 c3 c4)) Q) :
    W prog w s A h (execs (lawBody.drop 0) (lawEnv fa cd L c1 c2 c3 c4)) Q := by
  refine law_in F ?_
  clear F
  intro e₀ l₀ F
  change W _ _ _ _ _ (execs (Stmt.Assign _ _ _ :: _) _) _
  repeat' walk_at "z"
  refine w_pen F S (by walk_at "rm") I hi hn ?_
  intro h₁ G₁ p o c le₁ C P F
  replace S := S.mono le₁
  refine w_storeCell F rfl (AtF.tail AtF.head) d1 ?_ rfl rfl
  intro o₁ h₂ e₁ F
  replace F : Fm G₁ L [(p, o), (c1, o₁), (c2, o2), (c3, o3), (c4, o4)] h₂ _ := F
  refine F.up2.settleK ?_
  intro G₂ le₂ F g1
  have C1 : CellG G₂ c1 (.ref p) := ⟨_, g1, e₁⟩
  replace S := S.mono le₂
  replace C := C.mono le₂
  repeat' walk_at "z"
  walk_at "draw"
  intro h₁ o₃ way tw P w0 w1 F
  repeat' walk_at "z"
  rename Fm _ _ _ _ _ => F
  refine w_rows F S (by walk_at "rm") AtF.head P C (by walk_at "om") (by walk_at "om") ?_
  intro h₃ o₄ G₃ ra rs le₃ P T rk r0 r7 F
  replace S := S.mono le₃
  replace C := C.mono le₃
  replace C1 := C1.mono le₃
  repeat' walk_at "z"
  walk_at "draw"
  intro h₁ o₅ d td P w0' w1' F
  refine w_flagAt F AtF.head LO.new w0' w1' ?_
  intro flag tf hf
  replace F := F.drop
  repeat' walk_at "z"
  rename Fm _ _ _ _ _ => F
  refine w_storeCell F rfl (AtF.tail (AtF.tail AtF.head)) d2 ?_ rfl rfl
  intro o₆ h₄ e₂ F
  refine F.up3.settleK ?_
  intro G₄ le₄ F g2
  exact k _ G₄ p _ c way tw ra rs flag tf _ _ (le₁.trans (le₂.trans (le₃.trans le₄))) (C1.mono le₄) ⟨_, g2, e₂⟩ (C.mono le₄) (P.le (by walk_at "om")) w0 w1 (T.mono le₄) rk r0 r7 hf ‹Obj.IsDictOf _ _ _› ‹_› (F.to _ ⟨rfl, rfl, rfl, trivial⟩)
end
noncomputable def MarkV (G : PH) (v : Value) (p : Int × Int × Int) : Prop := ∃ a b t t1 t2, v = .ref a ∧ TupG G a [.int p.1 t, .ref b] ∧ TupG G b [.int p.2.1 t1, .int p.2.2 t2]
theorem MarkV.mono {G G' : PH} {v : Value} {p : Int × Int × Int} (I : MarkV G v p) (k : Le G G') : MarkV G' v p := let ⟨a, b, t, t1, t2, e, i, j⟩ := I; ⟨a, b, t, t1, t2, e, i.mono k, j.mono k⟩
theorem prd_keys {α : Type} {V : Value → α → Prop} {kvs : List (Int × Value)} {O : List (Int × α)} (P : Paired (fun kv p => kv.1 = p.1 ∧ V kv.2 p.2) kvs O) : kvs.map (·.1) = O.map (·.1) := by
  induction P with
  | nil => rfl
  | cons a _ ih => simp [a.1, ih]
section
variable {fa : Addr} {cd : Value} {prog : Program} {w : World} {s : Shared} {A : Around} {h : Heap} {G : PH} {L : Addr} {N : List (Addr × Obj)} {l : List (Str × Value)} {o : Obj} {g : Obj → List (Addr × Obj)} {mg mb : Str → Option Value}
theorem law_p1 {c1 c2 c3 c4 p md ra c : Addr} {dm o3 o4 : Obj} {way flag : Int} {tw tf : Tok} {Q : Flow → Heap → Prop} (F : Fm G L [(md, dm), (p, o), (c3, o3), (c4, o4)] h [("way", .int way tw), ("rows", .ref ra), ("flag", .int flag tf)])
    (S : Stat (hd.heap_39 w.params) mg mb G) (R : Rm A 20) (C1 : CellG G c1 (.ref p)) (C2 : CellG G c2 (.ref md)) (C : CellsG G c) (P : PenO o c 1000) (Dm : dm.IsDictOf (intKind prog w) []) (lo : (md == sysModules) = false)
    (k : ∀ h' G' o M, Le G G' → PenO o c 2000 → MapG MarkV prog w G' md M → M.map (·.1) = ([4, 5, 6] : List Int) → (∀ x ∈ M, x.2.1 = 0 ∨ x.2.1 = 1) → Fm G' L [(p, o), (c3, o3), (c4, o4)] h' [("way", .int way tw), ("rows", .ref ra), ("flag", .int flag tf)] →
      W prog w s A h' (execs (lawBody.drop 6) (lawEnv fa cd L c1 c2 c3 c4)) Q) :
    W prog w s A h (execs (lawBody.drop 5) (lawEnv fa cd L c1 c2 c3 c4)) Q := by
  refine law_in F ?_
  clear F
  intro e₀ l₀ F
  change W _ _ _ _ _ (execs (Stmt.For _ _ _ _ _ :: _) _) _
  refine w_forTup ?_
  repeat' walk_at "z"
  rename Fm _ _ _ _ _ => F
  refine F.settleK ?_
  intro G1 le1 F e1
  refine ⟨_, _, G1, L, _, _, fun i G' N' l' => ∃ (o' dm' : Obj) (M : List (Int × Int × Int × Int)) (kvs : List (Int × Value)), N' = [(md, dm'), (p, o'), (c3, o3), (c4, o4)] ∧ PenO o' c (1000 + 3 * i) ∧ dm'.IsDictOf (intKind prog w) kvs ∧ Paired (fun kv p => kv.1 = p.1 ∧ MarkV G' kv.2 p.2) kvs M ∧ M.map (·.1) = ([4, 5, 6] : List Int).take i ∧ (∀ x ∈ M, x.2.1 = 0 ∨ x.2.1 = 1) ∧
    Has (al l') [("way", .int way tw), ("rows", .ref ra), ("flag", .int flag tf)], rfl, by walk_at "hh", TupG.of e1, F, ⟨_, _, [], [], rfl, P.le (by walk_at "om"), Dm, .nil, rfl, (fun _ hx => nomatch hx), ⟨rfl, rfl, rfl, trivial⟩⟩, ?_, ?_⟩
  · rintro i v G' H N' l' h' hi hv hG F' ⟨o', dm', M, kvs, rfl, P, Dm, V, hk, hc, hl⟩
    obtain ⟨n, t, rfl, en⟩ := ints_at (ns := [4, 5, 6]) (by repeat constructor) hv
    replace hi : i < 3 := hi
    replace F' := F'.to _ hl
    refine F'.letK ?_
    clear F'
    intro l₁ F'
    replace hG := le1.trans hG
    replace S := S.mono hG
    replace C := C.mono hG
    replace C1 := C1.mono hG
    replace C2 := C2.mono hG
    repeat' walk_at "z"
    walk_at "draw"
    intro h₁ o₁ d0 t0 P d00 d01 F
    repeat' walk_at "z"
    walk_at "draw"
    intro h₁ o₂ d1 t1 P d10 d11 F
    repeat' walk_at "z"
    walk_at "draw"
    intro h₁ o₃ d2 t2 P d20 d21 F
    repeat' walk_at "z"
    rename Fm _ _ _ _ _ => F
    refine F.settleK ?_
    intro G2 le2 F e2
    refine F.settleK ?_
    intro G3 le3 F e3
    have ab : n ∉ kvs.map (·.1) := by
      rw [prd_keys V, hk]
      obtain rfl | rfl | rfl : i = 0 ∨ i = 1 ∨ i = 2 := by walk_at "om"
      all_goals (cases en; decide)
    have hkl : kvs.length = i := by rw [V.length, ← List.length_map (f := (·.1)), hk, List.length_take]; simp; walk_at "om"
    refine w_setDict F (AtF.app AtF.head) Dm (by rw [sizeLine_eq]; walk_at "om") ?_
    intro dm₂ h₄ Dm₂ F
    rw [stored_absent (valueAt_none_of_not_mem ab)] at Dm₂
    repeat' walk_at "z"
    refine ⟨_, _, F.less (le2.trans le3), _, dm₂, M ++ [(n, d0, d1 - 20, d2 - 20)], _, rfl, P.le (by walk_at "om"), Dm₂, ?_, ?_, ?_, ⟨rfl, rfl, rfl, trivial⟩⟩
    · have lo2 := (le2.trans le3).trans F.rebase.1
      exact (prd_mono V fun _ _ i => ⟨i.1, i.2.mono lo2⟩).snoc ⟨rfl, _, _, _, _, _, rfl, TupG.of ((le3.trans F.rebase.1) _ _ e2), TupG.of (F.rebase.1 _ _ e3)⟩
    · rw [take_snoc en, List.map_append, hk]; rfl
    · intro x hx
      rcases List.mem_append.mp hx with hx | hx
      · exact hc x hx
      · rw [List.mem_singleton.mp hx]; dsimp only; walk_at "om"
  · rintro G' N' l' h' hG F' ⟨o', dm', M, kvs, rfl, P, Dm, V, hk, hc, hl⟩
    replace F' := F'.to _ hl
    refine F'.letK ?_
    clear F'
    intro l₁ F'
    refine F'.settleK ?_
    intro G2 le2 F e2
    exact k _ G2 o' M (le1.trans (hG.trans le2)) (P.le (by simp)) ⟨lo, kvs, ⟨_, e2, Dm⟩, prd_mono V fun _ _ i => ⟨i.1, i.2.mono le2⟩⟩ (by simpa using hk) hc F
end
noncomputable def dueD (f : Inf) : PyData := .tuple [.int f.r.g, .int f.r.c, .int 0, .int 0, .int f.xo, .int f.yo, .int f.pa, .str f.bo, .bool f.us, .int f.r.i, .int f.r.p]
noncomputable def DueV (G : PH) (v : Value) (f : Inf) : Prop := ∃ a t1 t2 t3 t4 t5 t6 t7 t8 t9 t10, v = .ref a ∧ TupG G a [.int f.r.g t1, .int f.r.c t2, .int 0 t3, .int 0 t4, .int f.xo t5, .int f.yo t6, .int f.pa t7, .str f.bo t8, .bool f.us, .int f.r.i t9, .int f.r.p t10]
theorem DueV.mono {G G' : PH} {v : Value} {f : Inf} (I : DueV G v f) (k : Le G G') : DueV G' v f := let ⟨a, t1, t2, t3, t4, t5, t6, t7, t8, t9, t10, e, i⟩ := I; ⟨a, t1, t2, t3, t4, t5, t6, t7, t8, t9, t10, e, i.mono k⟩
theorem due_reads {h : Heap} {v : Value} {f : Inf} (I : DueV h.get? v f) : Reads h v (dueD f) [] := by
  obtain ⟨a, t1, t2, t3, t4, t5, t6, t7, t8, t9, t10, rfl, o, e, c, n, d⟩ := I
  refine .tuple e c d ?_
  exact .cons (.int _ _) (.cons (.int _ _) (.cons (.int _ _) (.cons (.int _ _) (.cons (.int _ _) (.cons (.int _ _) (.cons (.int _ _) (.cons (.str _ _) (.cons (.bool _) (.cons (.int _ _) (.cons (.int _ _) .nil))))))))))
theorem dues_read {h : Heap} {vs : List Value} {fs : List Inf} (P : Paired (DueV h.get?) vs fs) : ReadsAll h vs (fs.map dueD) [] := by
  induction P with
  | nil => exact .nil
  | cons a _ ih => exact .cons (due_reads a) ih
theorem due_lay {fs : List Inf} (hb : ∀ f ∈ fs, f.bo = "" ∨ f.bo = "mark") : PyData.canLayAll0 (fs.map dueD) = true := by
  induction fs with
  | nil => rfl
  | cons f fs ih =>
    rw [List.map_cons, PyData.canLayAll0, ih fun g hg => hb g (.tail _ hg), Bool.and_true]
    rcases hb f (.head _) with q | q <;> simp only [dueD, q, PyData.canLay0, PyData.canLayAll0, Bool.true_and, Bool.and_true] <;> decide +kernel
theorem due_depth : ∀ fs : List Inf, PyData.depthAll (fs.map dueD) ≤ 2
  | [] => by simp [PyData.depthAll]
  | f :: fs => by
    have := due_depth fs
    simp only [List.map_cons, PyData.depthAll, dueD, PyData.depth]
    walk_at "om"
section
variable {prog : Program} {w : World} {s : Shared} {A : Around} {h : Heap} {G : PH}
theorem w_neDue {G₁ G₂ : PH} {a b : Addr} {vs us : List Value} {fs : List Inf} {Q : Value → Heap → Prop} (R : Rm A 10) (I : LstG G₁ a vs) (k₁ : Le G₁ h.get?) (P : Paired (DueV G₁) vs fs) (J : LstG G₂ b us) (k₂ : Le G₂ h.get?) (P' : Paired (DueV G₂) us fs) (hb : ∀ f ∈ fs, f.bo = "" ∨ f.bo = "mark")
    (k : Q (.bool false) h) : W prog w s A h (compareOp .NotEq (.ref a) (.ref b)) Q := by
  have ly : PyData.canLay0 (.list (fs.map dueD)) = true := due_lay hb
  have sh : SeqAt.shaped (.list (fs.map dueD)) = true := by
    unfold SeqAt.shaped
    rw [ly, Bool.true_and, decide_eq_true_eq]
    have := due_depth fs
    simp only [PyData.depth]; walk_at "om"
  have e : PyData.eqv (.list (fs.map dueD)) (.list (fs.map dueD)) = true := SeqAt.eqv_refl _ ly
  obtain ⟨o, e1, c1, n1, d1⟩ := I.mono k₁
  obtain ⟨o', e2, c2, n2, d2⟩ := J.mono k₂
  refine w_ne_reads (.list e1 c1 d1 (dues_read (prd_mono P fun _ _ i => i.mono k₁))) (.list e2 c2 d2 (dues_read (prd_mono P' fun _ _ i => i.mono k₂))) sh sh ?_ ?_
  · have := R.units; walk_at "om"
  · rw [e]; exact k
end
noncomputable def partsOf : List Stmt → Expr
  | .For _ _ (.If _ (_ :: .Assign _ e _ :: _) _ _ :: _) _ _ :: _ => e
  | _ => .Tuple [] 0 default
noncomputable def partsExpr : Expr := partsOf (lawBody.drop 7)
theorem rng_small {n : Nat} (hn : n ≤ 7) : Builtin.Range.small 0 (n : Int) 1 = true := by
  obtain rfl | rfl | rfl | rfl | rfl | rfl | rfl | rfl : n = 0 ∨ n = 1 ∨ n = 2 ∨ n = 3 ∨ n = 4 ∨ n = 5 ∨ n = 6 ∨ n = 7 := by walk_at "om"
  all_goals rfl
theorem rng_size {n : Nat} (hn : n ≤ 7) : Builtin.Range.rangeSize 0 (n : Int) 1 = (n : Int) := by
  obtain rfl | rfl | rfl | rfl | rfl | rfl | rfl | rfl : n = 0 ∨ n = 1 ∨ n = 2 ∨ n = 3 ∨ n = 4 ∨ n = 5 ∨ n = 6 ∨ n = 7 := by walk_at "om"
  all_goals rfl
theorem AtF.same {a : Addr} {o : Obj} {N : List (Addr × Obj)} {g : Obj → List (Addr × Obj)} (u : AtF a o N g) : g o = N := by
  induction u with
  | head => rfl
  | tail _ ih => exact congrArg _ ih
  | app _ ih => exact congrArg _ ih
theorem menu {G : PH} {a b d : Addr} {X Y Z : List Value} {way : Int} (ha : TupG G a X) (ia : IntsAre X [1, 2, 3, 0, 7]) (hb : TupG G b Y) (ib : IntsAre Y [3, 1]) (hd : TupG G d Z) (id : IntsAre Z [4, 5]) (w0 : 0 ≤ way) (w1 : way < 3) :
    ∃ e vs gs, [Value.ref a, Value.ref b, Value.ref d][way.toNat]? = some (.ref e) ∧ TupG G e vs ∧ IntsAre vs gs ∧ gs.Nodup ∧ vs.length ≤ 5 := by
  obtain rfl | rfl | rfl : way = 0 ∨ way = 1 ∨ way = 2 := by walk_at "om"
  · exact ⟨_, _, _, rfl, ha, ia, by decide, by rw [ints_len ia]; decide⟩
  · exact ⟨_, _, _, rfl, hb, ib, by decide, by rw [ints_len ib]; decide⟩
  · exact ⟨_, _, _, rfl, hd, id, by decide, by rw [ints_len id]; decide⟩
theorem mem_snoc {O : List (Int × List PRow)} {gs : List Int} {i : Nat} {n : Int} {ps : List PRow} (hk : ∀ x ∈ O, x.1 ∈ gs.take i) (en : gs[i]? = some n) : ∀ x ∈ O ++ [(n, ps)], x.1 ∈ gs.take (i + 1) := by
  intro x hx
  rw [take_snoc en]
  rcases List.mem_append.mp hx with hx | hx
  · exact List.mem_append_left _ (hk x hx)
  · rw [List.mem_singleton.mp hx]; exact List.mem_append_right _ (.head _)
theorem all_snoc {α : Type} {O : List α} {P : α → Prop} {y : α} (hk : ∀ x ∈ O, P x) (hy : P y) : ∀ x ∈ O ++ [y], P x := by
  intro x hx
  rcases List.mem_append.mp hx with hx | hx
  · exact hk x hx
  · rw [List.mem_singleton.mp hx]; exact hy
theorem not_take {gs : List Int} {i : Nat} {n : Int} (nd : gs.Nodup) (en : gs[i]? = some n) : n ∉ gs.take i := by
  intro hm
  have hn : n ∈ gs.drop i := List.mem_of_getElem? (i := 0) (by rw [List.getElem?_drop]; simpa using en)
  rw [← List.take_append_drop i gs] at nd
  exact (List.nodup_append.mp nd).2.2 n hm n hn rfl
section
variable {fa : Addr} {cd : Value} {prog : Program} {w : World} {s : Shared} {A : Around} {h : Heap} {G : PH} {L : Addr} {N : List (Addr × Obj)} {l : List (Str × Value)} {o : Obj} {g : Obj → List (Addr × Obj)} {mg mb : Str → Option Value}
theorem w_parts {c1 c2 c3 c4 p c : Addr} {n cn : Int} {ct : Tok} {Q : Value → Heap → Prop} (F : Fm G L N h l) (hl : al l "count" = some (.int cn ct))
    (S : Stat (hd.heap_39 w.params) mg mb G) (R : Rm A 20) (U : AtF p o N g) (P : PenO o c n) (C1 : CellG G c1 (.ref p)) (C : CellsG G c) (hn : n ≤ 50000) (n0 : 0 ≤ cn) (n1 : cn ≤ 3)
    (k : ∀ h' G' o' v ps, Le G G' → PenO o' c (n + 50) → PartsV G' v ps → ps.length = cn.toNat → (∀ row ∈ ps, row.length = 2) → Fm G' L (g o') h' l → Q v h') :
    W prog w s A h (eval partsExpr (lawEnv fa cd L c1 c2 c3 c4)) Q := by
  change W _ _ _ _ _ (eval (Expr.ListComp _ [⟨_, _, _, _⟩] _ _) _) _
  obtain ⟨cm, rfl⟩ : ∃ cm : Nat, cn = cm := ⟨cn.toNat, by walk_at "om"⟩
  refine w_comp rfl (by decide) rfl (by decide) rfl ?_
  repeat' walk_at "z"
  refine w_local ?_ F hl
  repeat' walk_at "z"
  refine w_range1 ?_
  walk_at "back"
  intro r hr
  rename Fm _ _ _ _ _ => F
  refine (src_range (by walk_at "hh") hr (rng_small (by walk_at "om")) (rng_size (by walk_at "om")) F).mono ?_
  rintro it h₃ ⟨le3, X3⟩
  refine ⟨G, _, _, _, _, _, fun i G' N' ys => ∃ (o' : Obj) (ps : List PRow), N' = g o' ∧ PenO o' c (n + 10 * i) ∧ Paired (PRowV G') ys ps ∧ ps.length = i ∧ ∀ row ∈ ps, row.length = 2, X3, by rw [sizeLine_eq]; walk_at "om", ⟨o, [], U.same.symm, P.le (by walk_at "om"), .nil, rfl, fun _ hx => nomatch hx⟩, ?_, ?_⟩
  · rintro i v G' Cf H N' ys h' hi hv hG F' ⟨o', ps, rfl, P, V, hl, h2⟩
    have U' := U.again o'
    replace S := S.mono hG
    replace C := C.mono hG
    replace C1 := C1.mono hG
    refine w_comp rfl (by decide) rfl (by decide) rfl ?_
    repeat' walk_at "z"
    refine w_range1 ?_
    walk_at "back"
    intro r hr
    rename Fm _ _ _ _ _ => F
    refine (src_range (by walk_at "hh") hr (rng_small (n := 2) (by walk_at "om")) (rng_size (n := 2) (by walk_at "om")) F).mono ?_
    rintro it h₃ ⟨le3, X3⟩
    refine ⟨G', _, _, _, _, _, fun j G' N' ys => ∃ (o' : Obj) (row : PRow), N' = H ++ g o' ∧ PenO o' c (n + 10 * i + 3 * j) ∧ Paired (PlaceV G') ys row ∧ row.length = j, X3, by rw [sizeLine_eq]; walk_at "om", ⟨o', [], rfl, P.le (by walk_at "om"), .nil, rfl⟩, ?_, ?_⟩
    · rintro j v G'' Cg H' N' zs h' hj hv hG' F' ⟨o₂, row, rfl, P, V₂, hr⟩
      have U₂ := U.again o₂
      replace S := S.mono hG'
      replace C := C.mono hG'
      replace C1 := C1.mono hG'
      repeat' walk_at "z"
      walk_at "draw"
      intro h₁ o₃ d td P d0 d1 F
      have U₃ := U.again o₃
      repeat' walk_at "z"
      · rename Fm _ _ _ _ _ => F
        exact ⟨_, _, F, o₃, row ++ [none], rfl, P.le (by walk_at "om"), (prd_mono V₂ fun _ _ i => i.mono F.rebase.1).snoc rfl, by simp [hr]⟩
      · walk_at "draw"
        intro h₁ o₄ x tx P x0 x1 F
        have U₄ := U.again o₄
        repeat' walk_at "z"
        walk_at "draw"
        intro h₁ o₅ y ty P y0 y1 F
        have U₅ := U.again o₅
        repeat' walk_at "z"
        rename Fm _ _ _ _ _ => F
        refine F.settleK ?_
        intro G3 le3 F e3
        exact ⟨_, _, F.less le3, o₅, row ++ [some (x, y)], rfl, P.le (by walk_at "om"), (prd_mono V₂ fun _ _ i => i.mono (le3.trans F.rebase.1)).snoc ⟨_, _, _, rfl, TupG.of (F.rebase.1 _ _ e3)⟩, by simp [hr]⟩
    · rintro G'' D o₂ N' zs h' hG' F' D' hz ⟨o₃, row, rfl, P, V₂, hr⟩
      refine F'.settleK ?_
      intro G3 le3 F e3
      refine ⟨_, _, F.less (hG'.trans le3), o₃, ps ++ [row], rfl, P.le (by walk_at "om"), (prd_mono V fun _ _ i => i.mono (hG'.trans (le3.trans F.rebase.1))).snoc ⟨D, zs, rfl, D'.lst (F.rebase.1 _ _ e3), prd_mono V₂ fun _ _ i => i.mono (le3.trans F.rebase.1)⟩, by simp [hl], ?_⟩
      intro x hx
      rcases List.mem_append.mp hx with hx | hx
      · exact h2 x hx
      · rw [List.mem_singleton.mp hx]; exact hr
  · rintro G' D o₂ N' zs h' hG F' D' hz ⟨o₃, ps, rfl, P, V, hl, h2⟩
    refine F'.settleK ?_
    intro G3 le3 F e3
    exact k _ G3 o₃ _ ps (hG.trans le3) (P.le (by walk_at "om")) ⟨D, zs, rfl, D'.lst e3, prd_mono V fun _ _ i => i.mono le3⟩ (by walk_at "om") h2 F
theorem law_p2 {c1 c2 c3 c4 p ra c : Addr} {o3 o4 : Obj} {way flag : Int} {tw tf : Tok} {Q : Flow → Heap → Prop} (F : Fm G L [(p, o), (c3, o3), (c4, o4)] h [("way", .int way tw), ("rows", .ref ra), ("flag", .int flag tf)]) (d3 : o3.data = .cell none)
    (S : Stat (hd.heap_39 w.params) mg mb G) (R : Rm A 20) (C1 : CellG G c1 (.ref p)) (C : CellsG G c) (P : PenO o c 2000) (w0 : 0 ≤ way) (w1 : way < 3)
    (k : ∀ h' G' od O, Le G G' → CellG G' c3 (.ref od) → MapG PartsV prog w G' od O → O.length ≤ 10 → (∀ x ∈ O, (way ≠ 1 → x.2.length = 1) ∧ x.2.length ≤ 3 ∧ ∀ row ∈ x.2, row.length = 2) → Fm G' L [(c4, o4)] h' [("way", .int way tw), ("rows", .ref ra), ("flag", .int flag tf)] →
      W prog w s A h' (execs (lawBody.drop 8) (lawEnv fa cd L c1 c2 c3 c4)) Q) :
    W prog w s A h (execs (lawBody.drop 6) (lawEnv fa cd L c1 c2 c3 c4)) Q := by
  refine law_in F ?_
  clear F
  intro e₀ l₀ F
  change W _ _ _ _ _ (execs (Stmt.Assign _ _ _ :: _) _) _
  repeat' walk_at "z"
  rename Fm _ _ _ _ _ => F
  rename Addr => od
  refine w_storeCell F rfl (AtF.tail (AtF.tail AtF.head)) d3 ?_ rfl rfl
  intro o₁ h₂ e₁ F
  replace F : Fm G L [(od, _), (p, o), (c3, o₁), (c4, o4)] h₂ _ := F
  refine F.up3.settleK ?_
  intro G1 le1 F g1
  have C3 : CellG G1 c3 (.ref od) := ⟨_, g1, e₁⟩
  replace S := S.mono le1
  replace C := C.mono le1
  replace C1 := C1.mono le1
  rename Obj.IsDictOf _ _ _ => Do
  refine w_forTup ?_
  repeat' walk_at "z"
  rename Fm _ _ _ _ _ => F
  refine F.settleK ?_
  intro G2 le2 F g2
  refine F.settleK ?_
  intro G3 le3 F g3
  refine F.settleK ?_
  intro G4 le4 F g4
  refine F.settleK ?_
  intro G5 le5 F g5
  obtain ⟨b, vs, gs, eb, T, hi, nd, hb⟩ := menu (TupG.of g5) (by repeat constructor) (TupG.of (le5 _ _ g4)) (by repeat constructor) (TupG.of ((le4.trans le5) _ _ g3)) (by repeat constructor) w0 w1
  refine w_subTup (TupG.of ((le3.trans (le4.trans le5)) _ _ g2)) (by walk_at "le") w0 (by walk_at "om") eb ?_
  have le6 := le2.trans (le3.trans (le4.trans le5))
  replace S := S.mono le6
  replace C := C.mono le6
  replace C1 := C1.mono le6
  replace C3 := C3.mono le6
  refine ⟨b, vs, G5, L, _, _, fun i G' N' l' => ∃ (o' oo' : Obj) (O : List (Int × List PRow)) (kvs : List (Int × Value)), N' = [(od, oo'), (p, o'), (c4, o4)] ∧ PenO o' c (2000 + 100 * i) ∧ oo'.IsDictOf (intKind prog w) kvs ∧ Paired (fun kv p => kv.1 = p.1 ∧ PartsV G' kv.2 p.2) kvs O ∧ O.length ≤ i ∧ (∀ x ∈ O, x.1 ∈ gs.take i) ∧
    (∀ x ∈ O, (way ≠ 1 → x.2.length = 1) ∧ x.2.length ≤ 3 ∧ ∀ row ∈ x.2, row.length = 2) ∧ Has (al l') [("way", .int way tw), ("rows", .ref ra), ("flag", .int flag tf)], rfl, by walk_at "hh", T, F, ⟨o, _, [], [], rfl, P.le (by walk_at "om"), Do, .nil, Nat.zero_le _, (fun _ hx => nomatch hx), (fun _ hx => nomatch hx), ⟨rfl, rfl, rfl, trivial⟩⟩, ?_, ?_⟩
  · rintro i v G' H N' l' h' hiv hv hG F' ⟨o', oo', O, kvs, rfl, P, Do, V, hO, hk, hc, hl⟩
    obtain ⟨n, t, rfl, en⟩ := ints_at hi hv
    replace F' := F'.to _ hl
    refine F'.letK ?_
    clear F'
    intro l₁ F'
    replace S := S.mono hG
    replace C := C.mono hG
    replace C1 := C1.mono hG
    replace C3 := C3.mono hG
    have ab : n ∉ kvs.map (·.1) := by
      rw [prd_keys V]
      intro hm
      obtain ⟨x, hx, ex⟩ := List.mem_map.mp hm
      exact not_take nd en (ex ▸ hk x hx)
    have hkl := V.length
    repeat' walk_at "z"
    walk_at "draw"
    intro h₁ o₁ d0 t0 P d00 d01 F
    repeat' walk_at "z"
    · walk_at "draw"
      intro h₁ o₂ cn ct P cn0 cn1 F
      repeat' walk_at "z"
      rename Fm _ _ _ _ _ => F
      refine w_parts F rfl S R (by walk_at "atf") P C1 C (by walk_at "om") cn0 (by walk_at "om") ?_
      intro h₃ G6 o₃ v ps le7 P pv pl pr F
      replace C3 := C3.mono le7
      repeat' walk_at "z"
      refine w_setDict F (AtF.app AtF.head) Do (by rw [sizeLine_eq]; walk_at "om") ?_
      intro oo₂ h₄ Do₂ F
      rw [stored_absent (valueAt_none_of_not_mem ab)] at Do₂
      repeat' walk_at "z"
      exact ⟨_, _, F.less le7, o₃, oo₂, O ++ [(n, ps)], _, rfl, P.le (by walk_at "om"), Do₂, (prd_mono V fun _ _ i => ⟨i.1, i.2.mono (le7.trans F.rebase.1)⟩).snoc ⟨rfl, pv.mono F.rebase.1⟩, by simp; walk_at "om", mem_snoc hk en, all_snoc hc ⟨by dsimp only; walk_at "om", by dsimp only; walk_at "om", pr⟩, ⟨rfl, rfl, rfl, trivial⟩⟩
    · rename Fm _ _ _ _ _ => F
      refine w_parts F rfl S R (by walk_at "atf") P C1 C (by walk_at "om") (by walk_at "om") (by walk_at "om") ?_
      intro h₃ G6 o₃ v ps le7 P pv pl pr F
      replace C3 := C3.mono le7
      repeat' walk_at "z"
      refine w_setDict F (AtF.app AtF.head) Do (by rw [sizeLine_eq]; walk_at "om") ?_
      intro oo₂ h₄ Do₂ F
      rw [stored_absent (valueAt_none_of_not_mem ab)] at Do₂
      repeat' walk_at "z"
      exact ⟨_, _, F.less le7, o₃, oo₂, O ++ [(n, ps)], _, rfl, P.le (by walk_at "om"), Do₂, (prd_mono V fun _ _ i => ⟨i.1, i.2.mono (le7.trans F.rebase.1)⟩).snoc ⟨rfl, pv.mono F.rebase.1⟩, by simp; walk_at "om", mem_snoc hk en, all_snoc hc ⟨by dsimp only; walk_at "om", by dsimp only; walk_at "om", pr⟩, ⟨rfl, rfl, rfl, trivial⟩⟩
    · exact ⟨_, _, F, _, _, O, kvs, rfl, P.le (by walk_at "om"), Do, prd_mono V fun _ _ i => ⟨i.1, i.2.mono F.rebase.1⟩, by walk_at "om", fun x hx => by rw [take_snoc en]; exact List.mem_append_left _ (hk x hx), hc, ⟨rfl, rfl, rfl, trivial⟩⟩
  · rintro G' N' l' h' hG F' ⟨o', oo', O, kvs, rfl, P, Do, V, hO, hk, hc, hl⟩
    replace F' := F'.to _ hl
    refine F'.letK ?_
    clear F'
    intro l₁ F'
    refine F'.settleK ?_
    intro G6 le7 F e6
    refine F.settleK ?_
    intro G7 le8 F e7
    exact k _ G7 od O (le1.trans (le6.trans (hG.trans (le7.trans le8)))) (C3.mono (hG.trans (le7.trans le8))) ⟨‹_›, kvs, ⟨_, le8 _ _ e6, Do⟩, prd_mono V fun _ _ i => ⟨i.1, i.2.mono (le7.trans le8)⟩⟩ (by walk_at "om") hc F
end
theorem prd_take {α β : Type} {R : α → β → Prop} {ys : List α} {m : List β} {i : Nat} {y : α} {b : β} (p : Paired R ys (m.take i)) (e : m[i]? = some b) (r : R y b) : Paired R (ys ++ [y]) (m.take (i + 1)) := by
  rw [take_snoc e]; exact p.snoc r
section
variable {fa : Addr} {cd : Value} {prog : Program} {w : World} {s : Shared} {A : Around} {h : Heap} {G : PH} {L : Addr} {N : List (Addr × Obj)} {l : List (Str × Value)} {o : Obj} {g : Obj → List (Addr × Obj)} {mg mb : Str → Option Value}
theorem law_p3a {c1 c2 c3 c4 md ra : Addr} {M : List (Int × Int × Int × Int)} {way flag : Int} {tw tf : Tok} {Q : Flow → Heap → Prop} (F : Fm G L N h [("way", .int way tw), ("rows", .ref ra), ("flag", .int flag tf)])
    (S : Stat (hd.heap_39 w.params) mg mb G) (R : Rm A 20) (C2 : CellG G c2 (.ref md)) (MG : MapG MarkV prog w G md M) (hM : M.map (·.1) = ([4, 5, 6] : List Int))
    (k : ∀ h' G' ow, Le G G' → MapG OwnV prog w G' ow M → Fm G' L N h' [("way", .int way tw), ("rows", .ref ra), ("flag", .int flag tf), ("own", .ref ow)] →
      W prog w s A h' (execs (lawBody.drop 9) (lawEnv fa cd L c1 c2 c3 c4)) Q) :
    W prog w s A h (execs (lawBody.drop 8) (lawEnv fa cd L c1 c2 c3 c4)) Q := by
  refine law_in F ?_
  clear F
  intro e₀ l₀ F
  change W _ _ _ _ _ (execs (Stmt.Assign _ _ _ :: _) _) _
  obtain ⟨lo, kvs, D, PV⟩ := MG
  have hk := prd_keys PV
  have hn : kvs.length = 3 := by have := congrArg List.length (hk.trans hM); simpa using this
  have nd : (kvs.map (·.1)).Nodup := by rw [hk, hM]; decide
  repeat' walk_at "z"
  refine w_comp rfl (by decide) rfl (by decide) rfl ?_
  repeat' walk_at "z"
  refine (src_dict (by walk_at "hh") D lo F).mono ?_
  clear F
  rintro it h₃ ⟨le3, X3⟩
  refine ⟨G, _, _, _, _, _, fun i G' N' ys => N' = N ∧ ∃ kvs', Paired (PairV G') ys kvs' ∧ Paired (fun kv p => kv.1 = p.1 ∧ OwnV G' kv.2 p.2) kvs' (M.take i), X3, by rw [sizeLine_eq]; walk_at "om", ⟨rfl, [], .nil, .nil⟩, ?_, ?_⟩
  · rintro i v G' Cf H N' ys h' hi ⟨kk, t, x, rfl, ek⟩ hG F' ⟨rfl, kvs', Pp, Pv⟩
    have hi' : i < M.length := by have := PV.length; walk_at "om"
    obtain ⟨kv, ekv, e1, vv⟩ := prd_get PV (i := i) (b := M[i]) (by simp [hi'])
    rw [ek] at ekv; cases ekv
    obtain ⟨a, b, t0, t1, t2, rfl, T1, T2⟩ := vv
    have va := valueAt_of_get nd ek
    replace S := S.mono hG
    replace C2 := C2.mono hG
    replace D := D.mono hG
    replace T1 := T1.mono hG
    replace T2 := T2.mono hG
    repeat' walk_at "z"
    refine w_subDict D (by walk_at "le") va ?_
    repeat' walk_at "z"
    refine w_subDict D (by walk_at "le") va ?_
    repeat' walk_at "z"
    refine w_subDict D (by walk_at "le") va ?_
    repeat' walk_at "z"
    refine sp_Anchor (by walk_at "st") (by walk_at "rm") ?_
    intro h₄ x le I
    refine I.stdK F' le ?_
    intro G2 le2 F I _
    repeat' walk_at "z"
    rename Fm _ _ _ _ _ => F
    refine F.settleK ?_
    intro G3 le3 F e3
    refine F.settleK ?_
    intro G4 le4 F e4
    have le5 := (le2.trans (le3.trans le4)).trans F.rebase.1
    refine ⟨_, _, F.less (le2.trans (le3.trans le4)), rfl, kvs' ++ [(kk, _)], (prd_mono Pp fun _ _ ⟨a, t, e, i⟩ => ⟨a, t, e, i.mono le5⟩).snoc ⟨_, _, rfl, TupG.of ((le4.trans F.rebase.1) _ _ e3)⟩, prd_take (prd_mono Pv fun _ _ i => ⟨i.1, i.2.mono le5⟩) (b := M[i]) (by simp [hi']) ⟨e1, _, _, _, rfl, TupG.of (F.rebase.1 _ _ e4), _, _, I.mono ((le3.trans le4).trans F.rebase.1)⟩⟩
  · rintro G' D' o' N' ys h' hG F' PD hz ⟨rfl, kvs', Pp, Pv⟩
    replace S := S.mono hG
    rw [PV.length, List.take_length] at Pv
    have hk' := prd_keys Pv
    repeat' walk_at "z"
    refine w_dictOf F' S (by walk_at "hh") AtF.head PD (by walk_at "le") Pp (by rw [hk', hM]; decide) (by rw [sizeLine_eq, Pv.length, ← PV.length, hn]; decide) ?_
    intro d o₂ h₄ F le nd lo Do
    refine F.settleK ?_
    intro G2 le2 F e2
    refine w_store F.drop ?_
    intro h₅ F
    exact k _ G2 d (hG.trans le2) ⟨lo, kvs', ⟨_, e2, Do⟩, prd_mono Pv fun _ _ i => ⟨i.1, i.2.mono le2⟩⟩ (F.to _ ⟨rfl, rfl, rfl, rfl, trivial⟩)
theorem law_p3b {c1 c2 c3 c4 od ra ow : Addr} {o4 : Obj} {O : List (Int × List PRow)} {way flag : Int} {tw tf : Tok} {Q : Flow → Heap → Prop} (F : Fm G L [(c4, o4)] h [("way", .int way tw), ("rows", .ref ra), ("flag", .int flag tf), ("own", .ref ow)]) (d4 : o4.data = .cell none)
    (S : Stat (hd.heap_39 w.params) mg mb G) (R : Rm A 20) (C3 : CellG G c3 (.ref od)) (OG : MapG PartsV prog w G od O) (hO : O.length ≤ 10) (hc : ∀ x ∈ O, (way ≠ 1 → x.2.length = 1) ∧ x.2.length ≤ 3 ∧ ∀ row ∈ x.2, row.length = 2)
    (k : ∀ h' G' hl, Le G G' → MapG PartsA prog w G' hl O → CellG G' c4 (.ref hl) → Fm G' L [] h' [("way", .int way tw), ("rows", .ref ra), ("flag", .int flag tf), ("own", .ref ow)] →
      W prog w s A h' (execs (lawBody.drop 10) (lawEnv fa cd L c1 c2 c3 c4)) Q) :
    W prog w s A h (execs (lawBody.drop 9) (lawEnv fa cd L c1 c2 c3 c4)) Q := by
  refine law_in F ?_
  clear F
  intro e₀ l₀ F
  change W _ _ _ _ _ (execs (Stmt.Assign _ _ _ :: _) _) _
  obtain ⟨lo, kvs, D, PV⟩ := OG
  have hk := prd_keys PV
  have hn := PV.length
  have nd : (kvs.map (·.1)).Nodup := let ⟨_, _, _, _, _, _, _, _, nd⟩ := D; nd
  repeat' walk_at "z"
  refine w_comp rfl (by decide) rfl (by decide) rfl ?_
  repeat' walk_at "z"
  refine (src_dict (by walk_at "hh") D lo F).mono ?_
  clear F
  rintro it h₃ ⟨le3, X3⟩
  refine ⟨G, _, _, _, _, _, fun i G' N' ys => N' = [(c4, o4)] ∧ ∃ kvs', Paired (PairV G') ys kvs' ∧ Paired (fun kv p => kv.1 = p.1 ∧ PartsA G' kv.2 p.2) kvs' (O.take i), X3, by rw [sizeLine_eq]; walk_at "om", ⟨rfl, [], .nil, .nil⟩, ?_, ?_⟩
  · rintro i v G' Cf H N' ys h' hi ⟨kk, t, x, rfl, ek⟩ hG F' ⟨rfl, kvs', Pp, Pv⟩
    have hi' : i < O.length := by walk_at "om"
    obtain ⟨kv, ekv, e1, vv⟩ := prd_get PV (i := i) (b := O[i]) (by simp [hi'])
    rw [ek] at ekv; cases ekv
    have hci := hc O[i] (List.getElem_mem _)
    have eO : O[i]? = some O[i] := by simp [hi']
    generalize O[i] = Oi at *
    obtain ⟨a, us, rfl, La, Va⟩ := vv
    have va := valueAt_of_get nd ek
    replace S := S.mono hG
    replace C3 := C3.mono hG
    replace D := D.mono hG
    replace La := La.mono hG
    repeat' walk_at "z"
    refine w_comp rfl (by decide) rfl (by decide) rfl ?_
    repeat' walk_at "z"
    refine w_subDict D (by walk_at "le") va ?_
    refine (src_list (by walk_at "hh") La F').mono ?_
    rintro it h₄ ⟨le4, X4⟩
    clear F'
    have hu := Va.length
    refine ⟨G', _, _, _, _, _, fun j G'' N' ys => N' = H ++ [(c4, o4)] ∧ Paired (ARowV G'') ys (Oi.2.take j), X4, by rw [sizeLine_eq]; walk_at "om", ⟨rfl, .nil⟩, ?_, ?_⟩
    · rintro j v G'' Cg H' N' zs h' hj hv hG' F' ⟨rfl, V⟩
      have hj' : j < Oi.2.length := by walk_at "om"
      obtain ⟨v', ev, b, ws, rfl, Lb, Vb⟩ := prd_get Va (i := j) (b := Oi.2[j]) (by simp [hj'])
      rw [hv] at ev; cases ev
      have hcj := hci.2.2 Oi.2[j] (List.getElem_mem _)
      have eP : Oi.2[j]? = some Oi.2[j] := by simp [hj']
      generalize Oi.2[j] = rw' at *
      replace S := S.mono hG'
      replace Lb := (Lb.mono hG).mono hG'
      have hw := Vb.length
      repeat' walk_at "z"
      refine w_comp rfl (by decide) rfl (by decide) rfl ?_
      repeat' walk_at "z"
      refine (src_list (by walk_at "hh") Lb F').mono ?_
      rintro it h₅ ⟨le5, X5⟩
      clear F'
      refine ⟨G'', _, _, _, _, _, fun m G₃ N' ys => N' = H' ++ (H ++ [(c4, o4)]) ∧ Paired (AncV G₃) ys (rw'.take m), X5, by rw [sizeLine_eq]; walk_at "om", ⟨rfl, .nil⟩, ?_, ?_⟩
      · rintro m v G₃ Ch H₂ N' qs h' hm hv' hG₂ F' ⟨rfl, V₃⟩
        have hm' : m < rw'.length := by walk_at "om"
        obtain ⟨v', ev', pv⟩ := prd_get Vb (i := m) (b := rw'[m]) (by simp [hm'])
        rw [hv'] at ev'; cases ev'
        have eR : rw'[m]? = some rw'[m] := by simp [hm']
        generalize rw'[m] = pl at *
        replace S := S.mono hG₂
        rcases pl with _ | ⟨x, y⟩
        · cases pv
          repeat' walk_at "z"
          exact ⟨_, _, F', rfl, prd_take (prd_mono V₃ fun _ _ i => i.mono F'.rebase.1) eR rfl⟩
        · obtain ⟨b₂, t1, t2, rfl, T⟩ := pv
          replace T := ((T.mono hG).mono hG').mono hG₂
          repeat' walk_at "z"
          refine sp_Anchor (by walk_at "st") (by walk_at "rm") ?_
          intro h₆ x' le I
          refine I.stdK F' le ?_
          intro G2 le2 F I _
          have le6 := le2.trans F.rebase.1
          exact ⟨_, _, F.less le2, rfl, prd_take (prd_mono V₃ fun _ _ i => i.mono le6) eR ⟨_, rfl, _, _, I.mono F.rebase.1⟩⟩
      · rintro G₃ D' o' N' qs h' hG₂ F' PD hz ⟨rfl, V₃⟩
        refine F'.settleK ?_
        intro G4 le7 F e7
        rw [hw, List.take_length] at V₃
        replace S := S.mono (hG₂.trans le7)
        repeat' walk_at "z"
        refine w_tupleOf F (PD.lst e7) (by walk_at "le") (by rw [sizeLine_eq]; walk_at "om") ?_
        intro tb h₆ F le nt
        refine F.settleK ?_
        intro G5 le8 F e8
        have le9 := (hG₂.trans (le7.trans le8)).trans F.rebase.1
        exact ⟨_, _, F.less (hG₂.trans (le7.trans le8)), rfl, prd_take (prd_mono V fun _ _ i => i.mono le9) eP ⟨_, _, rfl, TupG.of (F.rebase.1 _ _ e8), prd_mono V₃ fun _ _ i => i.mono ((le7.trans le8).trans F.rebase.1)⟩⟩
    · rintro G'' D' o' N' zs h' hG' F' PD hz ⟨rfl, V⟩
      rw [hu, List.take_length] at V
      refine F'.settleK ?_
      intro G4 le7 F e7
      repeat' walk_at "z"
      rename Fm _ _ _ _ _ => F
      refine F.settleK ?_
      intro G5 le8 F e8
      have le9 := (hG'.trans (le7.trans le8)).trans F.rebase.1
      exact ⟨_, _, F.less (hG'.trans (le7.trans le8)), rfl, kvs' ++ [(kk, _)], (prd_mono Pp fun _ _ ⟨a, t, e, i⟩ => ⟨a, t, e, i.mono le9⟩).snoc ⟨_, _, rfl, TupG.of (F.rebase.1 _ _ e8)⟩,
        prd_take (prd_mono Pv fun _ _ i => ⟨i.1, i.2.mono le9⟩) eO ⟨e1, _, _, rfl, PD.lst ((le8.trans F.rebase.1) _ _ e7), prd_mono V fun _ _ i => i.mono ((le7.trans le8).trans F.rebase.1)⟩⟩
  · rintro G' D' o' N' ys h' hG F' PD hz ⟨rfl, kvs', Pp, Pv⟩
    replace S := S.mono hG
    rw [hn, List.take_length] at Pv
    have hk' := prd_keys Pv
    repeat' walk_at "z"
    refine w_dictOf F' S (by walk_at "hh") AtF.head PD (by walk_at "le") Pp (by rw [hk', ← hk]; exact nd) (by rw [sizeLine_eq, Pv.length]; walk_at "om") ?_
    intro d o₂ h₄ F le nd lo Do
    refine F.settleK ?_
    intro G2 le2 F e2
    refine w_storeCell F.drop rfl AtF.head d4 ?_ rfl rfl
    intro o₅ h₅ e₅ F
    refine F.settleK ?_
    intro G3 le3 F g3
    exact k _ G3 d (hG.trans (le2.trans le3)) ⟨lo, kvs', ⟨_, le3 _ _ e2, Do⟩, prd_mono Pv fun _ _ i => ⟨i.1, i.2.mono (le2.trans le3)⟩⟩ ⟨_, g3, e₅⟩ F
end
noncomputable def TabW (prog : Program) (w : World) (G : PH) (way : Int) (tb ow : Addr) (O : List (Int × List PRow)) : Prop :=
  (way = 1 → ∃ bd, InstG G tb 317 [("marks", .ref ow), ("ligatures", .ref bd)] ∧ MapG PartsA prog w G bd O) ∧
  (way = 0 → ∃ bd, InstG G tb 291 [("marks", .ref ow), ("bases", .ref bd)] ∧ MapG ARowV prog w G bd (firsts O)) ∧
  (way = 2 → ∃ bd, InstG G tb 345 [("marks", .ref ow), ("others", .ref bd)] ∧ MapG ARowV prog w G bd (firsts O))
theorem TabW.mono {prog : Program} {w : World} {G G' : PH} {way : Int} {tb ow : Addr} {O : List (Int × List PRow)} (I : TabW prog w G way tb ow O) (k : Le G G') : TabW prog w G' way tb ow O :=
  ⟨fun e => let ⟨bd, i, m⟩ := I.1 e; ⟨bd, i.mono k, m.mono (fun _ _ x => x.mono k) k⟩, fun e => let ⟨bd, i, m⟩ := I.2.1 e; ⟨bd, i.mono k, m.mono (fun _ _ x => x.mono k) k⟩, fun e => let ⟨bd, i, m⟩ := I.2.2 e; ⟨bd, i.mono k, m.mono (fun _ _ x => x.mono k) k⟩⟩
section
variable {fa : Addr} {cd : Value} {prog : Program} {w : World} {s : Shared} {A : Around} {h : Heap} {G : PH} {L : Addr} {N : List (Addr × Obj)} {l : List (Str × Value)} {o : Obj} {g : Obj → List (Addr × Obj)} {mg mb : Str → Option Value}
theorem law_p4 {c1 c2 c3 c4 hl ra ow : Addr} {O : List (Int × List PRow)} {way flag : Int} {tw tf : Tok} {Q : Flow → Heap → Prop} (F : Fm G L N h [("way", .int way tw), ("rows", .ref ra), ("flag", .int flag tf), ("own", .ref ow)])
    (S : Stat (hd.heap_39 w.params) mg mb G) (R : Rm A 20) (C4 : CellG G c4 (.ref hl)) (HG : MapG PartsA prog w G hl O) (hO : O.length ≤ 10) (hc : ∀ x ∈ O, (way ≠ 1 → x.2.length = 1) ∧ x.2.length ≤ 3 ∧ ∀ row ∈ x.2, row.length = 2) (w0 : 0 ≤ way) (w1 : way < 3)
    (k : ∀ h' G' tb, Le G G' → TabW prog w G' way tb ow O → Fm G' L N h' [("way", .int way tw), ("rows", .ref ra), ("flag", .int flag tf), ("table", .ref tb)] →
      W prog w s A h' (execs (lawBody.drop 11) (lawEnv fa cd L c1 c2 c3 c4)) Q) :
    W prog w s A h (execs (lawBody.drop 10) (lawEnv fa cd L c1 c2 c3 c4)) Q := by
  refine law_in F ?_
  clear F
  intro e₀ l₀ F
  change W _ _ _ _ _ (execs (Stmt.If _ _ _ _ :: _) _) _
  repeat' walk_at "z"
  · refine sp_MarkComponent (by walk_at "st") (by walk_at "rm") ?_
    intro h₆ tb le I
    refine I.stdK F le ?_
    intro G2 le2 F I _
    refine w_store F ?_
    intro h₇ F
    refine w_app0 ?_
    exact k _ G2 tb le2 ⟨fun _ => ⟨hl, I, HG.mono (fun _ _ x => x.mono le2) le2⟩, fun e => by walk_at "om", fun e => by walk_at "om"⟩ (F.to _ ⟨rfl, rfl, rfl, rfl, trivial⟩)
  · refine w_comp rfl (by decide) rfl (by decide) rfl ?_
    have HG' := HG
    obtain ⟨lo, kvs, D, PV⟩ := HG
    have hk := prd_keys PV
    have hn := PV.length
    have nd : (kvs.map (·.1)).Nodup := let ⟨_, _, _, _, _, _, _, _, nd⟩ := D; nd
    repeat' walk_at "z"
    refine (src_dict (by walk_at "hh") D lo F).mono ?_
    clear F
    rintro it h₃ ⟨le3, X3⟩
    refine ⟨G, _, _, _, _, _, fun i G' N' ys => N' = N ∧ ∃ kvs', Paired (PairV G') ys kvs' ∧ Paired (fun kv p => kv.1 = p.1 ∧ ARowV G' kv.2 p.2) kvs' ((firsts O).take i), X3, by rw [sizeLine_eq]; walk_at "om", ⟨rfl, [], .nil, .nil⟩, ?_, ?_⟩
    · rintro i v G' Cf H N' ys h' hi ⟨kk, t, x, rfl, ek⟩ hG F' ⟨rfl, kvs', Pp, Pv⟩
      have hi' : i < O.length := by walk_at "om"
      obtain ⟨kv, ekv, e1, vv⟩ := prd_get PV (i := i) (b := O[i]) (by simp [hi'])
      rw [ek] at ekv; cases ekv
      have hci := (hc O[i] (List.getElem_mem _)).1 (by assumption)
      have eO : (firsts O)[i]? = some (O[i].1, O[i].2.headD []) := by simp [firsts, hi']
      generalize O[i] = Oi at *
      obtain ⟨a, us, rfl, La, Va⟩ := vv
      obtain ⟨row, er⟩ := List.length_eq_one_iff.mp hci
      rw [er] at Va eO
      obtain ⟨v0, ev0, vr⟩ := prd_get Va (i := 0) (b := row) rfl
      have va := valueAt_of_get nd ek
      replace S := S.mono hG
      replace C4 := C4.mono hG
      replace D := D.mono hG
      replace La := La.mono hG
      repeat' walk_at "z"
      refine w_subDict D (by walk_at "le") va ?_
      repeat' walk_at "z"
      refine w_subList La (by walk_at "le") (by decide) (by decide) ev0 ?_
      repeat' walk_at "z"
      rename Fm _ _ _ _ _ => F
      refine F.settleK ?_
      intro G5 le8 F e8
      have le9 := le8.trans F.rebase.1
      exact ⟨_, _, F.less le8, rfl, kvs' ++ [(kk, v0)], (prd_mono Pp fun _ _ ⟨a, t, e, i⟩ => ⟨a, t, e, i.mono le9⟩).snoc ⟨_, _, rfl, TupG.of (F.rebase.1 _ _ e8)⟩,
        prd_take (prd_mono Pv fun _ _ i => ⟨i.1, i.2.mono le9⟩) eO ⟨e1, vr.mono (hG.trans le9)⟩⟩
    · rintro G' D' o' N' ys h' hG F' PD hz ⟨rfl, kvs', Pp, Pv⟩
      replace S := S.mono hG
      rw [hn, show O.length = (firsts O).length by simp [firsts], List.take_length] at Pv
      have hk' := prd_keys Pv
      have hfk : (firsts O).map (·.1) = O.map (·.1) := by simp [firsts]
      repeat' walk_at "z"
      refine w_dictOf F' S (by walk_at "hh") AtF.head PD (by walk_at "le") Pp (by rw [hk', hfk, ← hk]; exact nd) (by rw [sizeLine_eq, Pv.length]; simp [firsts]; walk_at "om") ?_
      intro d o₂ h₄ F le nd lo Do
      refine F.settleK ?_
      intro G2 le2 F e2
      refine w_store F.drop ?_
      intro h₅ F
      have MA : MapG ARowV prog w G2 d (firsts O) := ⟨lo, kvs', ⟨_, e2, Do⟩, prd_mono Pv fun _ _ i => ⟨i.1, i.2.mono le2⟩⟩
      replace S := S.mono le2
      repeat' walk_at "z"
      · refine sp_MarkBase (by walk_at "st") (by walk_at "rm") ?_
        intro h₆ tb le I
        refine I.stdK F le ?_
        intro G3 le3 F I _
        refine w_store F ?_
        intro h₇ F
        refine w_app0 ?_
        exact k _ G3 tb (hG.trans (le2.trans le3)) ⟨fun e => by walk_at "om", fun _ => ⟨d, I, MA.mono (fun _ _ x => x.mono le3) le3⟩, fun e => by walk_at "om"⟩ (F.to _ ⟨rfl, rfl, rfl, rfl, trivial⟩)
      · refine sp_MarkMark (by walk_at "st") (by walk_at "rm") ?_
        intro h₆ tb le I
        refine I.stdK F le ?_
        intro G3 le3 F I _
        refine w_store F ?_
        intro h₇ F
        refine w_app0 ?_
        exact k _ G3 tb (hG.trans (le2.trans le3)) ⟨fun e => by walk_at "om", fun e => by walk_at "om", fun _ => ⟨d, I, MA.mono (fun _ _ x => x.mono le3) le3⟩⟩ (F.to _ ⟨rfl, rfl, rfl, rfl, trivial⟩)
theorem law_p5 {c1 c2 c3 c4 tb ra : Addr} {way flag : Int} {tw tf : Tok} {Q : Flow → Heap → Prop} (F : Fm G L N h [("way", .int way tw), ("rows", .ref ra), ("flag", .int flag tf), ("table", .ref tb)])
    (S : Stat (hd.heap_39 w.params) mg mb G) (R : Rm A 20)
    (k : ∀ h' G' gd, Le G G' → GdefG prog w G' gd → Fm G' L N h' [("way", .int way tw), ("rows", .ref ra), ("flag", .int flag tf), ("table", .ref tb), ("gdef", .ref gd)] →
      W prog w s A h' (execs (lawBody.drop 12) (lawEnv fa cd L c1 c2 c3 c4)) Q) :
    W prog w s A h (execs (lawBody.drop 11) (lawEnv fa cd L c1 c2 c3 c4)) Q := by
  refine law_in F ?_
  clear F
  intro e₀ l₀ F
  change W _ _ _ _ _ (execs (Stmt.Assign _ _ _ :: _) _) _
  repeat' walk_at "z"
  refine sp_ClassDef (by walk_at "st") (by walk_at "rm") ?_
  intro h₁ x1 le I1
  refine I1.stdK F le ?_
  intro G1 le1 F I1 _
  replace S := S.mono le1
  repeat' walk_at "z"
  refine sp_ClassDef (by walk_at "st") (by walk_at "rm") ?_
  intro h₂ x2 le I2
  refine I2.stdK F le ?_
  intro G2 le2 F I2 _
  replace S := S.mono le2
  replace I1 := I1.mono le2
  repeat' walk_at "z"
  refine sp_Coverage (by walk_at "st") (by walk_at "rm") ?_
  intro h₃ x3 le I3
  refine I3.stdK F le ?_
  intro G3 le3 F I3 _
  replace S := S.mono le3
  replace I1 := I1.mono le3
  replace I2 := I2.mono le3
  repeat' walk_at "z"
  rename Fm _ _ _ _ _ => F
  refine F.settleK ?_
  intro G4 le4 F e4
  replace S := S.mono le4
  replace I1 := I1.mono le4
  replace I2 := I2.mono le4
  replace I3 := I3.mono le4
  repeat' walk_at "z"
  refine sp_Gdef (by walk_at "st") (by walk_at "rm") ?_
  intro h₅ gd le u1 u2 I5
  refine I5.stdK F le ?_
  intro G5 le5 F I5 _
  refine w_store F ?_
  intro h₇ F
  exact k _ G5 gd (le1.trans (le2.trans (le3.trans (le4.trans le5)))) ⟨x1, x2, _, x3, u1, u2, I5, I1.mono le5, I2.mono le5, LstG.of (le5 _ _ e4), I3.mono le5⟩ (F.to _ ⟨rfl, rfl, rfl, rfl, rfl, trivial⟩)
end
theorem back_congr {P P' : Row → Bool} {rs : List Row} (e : ∀ r ∈ rs, P r = P' r) : ∀ n, back P rs n = back P' rs n
  | 0 => rfl
  | n + 1 => by
    unfold back
    rw [back_congr e n]
    cases q : rs[n]? with
    | none => rfl
    | some r => simp only [e r (List.mem_of_getElem? q)]
theorem baseAt_congr {P P' : Row → Bool} {rs : List Row} (e : ∀ r ∈ rs, P r = P' r) (n : Nat) : baseAt P rs n = baseAt P' rs n := by
  induction n using Nat.strongRecOn with
  | _ n ih =>
    have e1 : ∀ P, baseAt P rs n = if hj : 0 ≤ back P rs n ∧ later rs (back P rs n).toNat = true then baseAt P rs (back P rs n).toNat else back P rs n := fun P => by rw [baseAt]
    rw [e1 P, e1 P', back_congr e n]
    split
    · exact ih _ (by have := back_lt P' rs n; omega)
    · rfl
theorem goal0_congr {P P' : Row → Bool} {rs : List Row} (e : ∀ r ∈ rs, P r = P' r) (n : Nat) (O : List (Int × List PRow)) : goal0 P rs n O = goal0 P' rs n O := by unfold goal0; rw [baseAt_congr e]
theorem goal1_congr {P P' : Row → Bool} {rs : List Row} (e : ∀ r ∈ rs, P r = P' r) (n : Nat) (O : List (Int × List PRow)) : goal1 P rs n O = goal1 P' rs n O := by unfold goal1; rw [back_congr e]
theorem goal2_congr {P P' : Row → Bool} {rs : List Row} (e : ∀ r ∈ rs, P r = P' r) (n : Nat) (O : List (Int × List PRow)) : goal2 P rs n O = goal2 P' rs n O := by unfold goal2; rw [back_congr e]
theorem around_kind {k : Str} (h : k ∈ kinds) : (!around k) = decide (k = "") := by
  simp only [kinds, List.mem_cons, List.not_mem_nil, or_false] at h
  rcases h with rfl | rfl | rfl | rfl <;> decide
theorem ign8 (g : Int) : (!ign 8 g) = decide (cls g ≠ 3) := by
  have : cls g = 0 ∨ cls g = 1 ∨ cls g = 2 ∨ cls g = 3 ∨ cls g = 4 := by have := cls_range g; omega
  have e : cls g = 3 ∨ cls g ≠ 3 := Decidable.em _
  unfold ign
  rcases e with e | e
  · rw [if_pos (by rw [e]; decide), e]; rfl
  · rw [if_neg, if_pos e]
    · simp [e]
    · rcases this with q | q | q | q | q <;> first | exact absurd q e | (rw [q]; decide)
theorem pas8 {r : Row} (o : ROk r) : pas 8 r = ahd (-1) r := by
  unfold pas ahd
  rw [ign8, around_kind o.k, Bool.and_comm]
  rfl
theorem ign_cnt {g : Int} (h0 : 0 ≤ g) (h1 : g < 9) {flag : Int} (hf : flag ∈ flags) : (!ign (mflag flag) g) = cnt flag g := by
  have hg : g = 0 ∨ g = 1 ∨ g = 2 ∨ g = 3 ∨ g = 4 ∨ g = 5 ∨ g = 6 ∨ g = 7 ∨ g = 8 := by omega
  simp only [flags, List.mem_cons, List.not_mem_nil, or_false] at hf
  rcases hf with rfl | rfl | rfl | rfl | rfl | rfl <;> rcases hg with rfl | rfl | rfl | rfl | rfl | rfl | rfl | rfl | rfl <;> decide
theorem pasf {r : Row} (o : ROk r) {flag : Int} (hf : flag ∈ flags) : pas (mflag flag) r = ahd flag r := by
  have hn : ¬ flag < 0 := by
    simp only [flags, List.mem_cons, List.not_mem_nil, or_false] at hf
    omega
  unfold pas ahd
  rw [if_neg hn, ign_cnt o.g0 o.g1 hf, around_kind o.k, Bool.and_comm]
noncomputable def loopOf : List Stmt → List Stmt
  | .For _ _ b _ _ :: _ => b
  | _ => []
noncomputable def loopBody : List Stmt := loopOf (lawBody.drop 12)
noncomputable def glOf (way flag : Int) (rs : List Row) (n : Nat) (O : List (Int × List PRow)) : Option (Nat × PRow) :=
  if way = 0 then goal0 (ahd (-1)) rs n O else if way = 1 then goal1 (ahd (-1)) rs n O else goal2 (ahd flag) rs n O
noncomputable def Outc (rs : List Row) (n : Nat) (sg : Option (Nat × Int × Int)) (heard : Int) (fs : List Inf) : Prop := match sg with
  | none => heard = -1 ∧ fs = rs.map inf0
  | some (j, dx, dy) => heard = n + 1 ∧ ∃ m r, rs[n]? = some r ∧ isMin m (clus (rs.map inf0) j (n + 1)) ∧ fs = hangF j (n + 1) m ((rs.map inf0).set n ⟨r, false, dx, dy, (j : Int) - n, "mark"⟩)
theorem lookup_mem {α : Type} {g : Int} {x : α} : ∀ {O : List (Int × α)}, O.lookup g = some x → (g, x) ∈ O
  | (k, v) :: r, e => by
    rw [List.lookup_cons] at e
    by_cases q : (g == k) = true
    · rw [q] at e; cases e; rw [beq_iff_eq.mp q]; exact .head _
    · rw [Bool.not_eq_true] at q; rw [q] at e; exact .tail _ (lookup_mem e)
theorem map_inf0 (rs : List Row) : (rs.map inf0).map (·.r) = rs := by
  rw [List.map_map]
  exact List.map_id'' (fun _ => rfl) rs
theorem Fm.settles {G : PH} {L : Addr} {N ns : List (Addr × Obj)} {h : Heap} {l : List (Str × Value)} (F : Fm G L (N ++ ns) h l) : ∃ G', Le G G' ∧ Fm G' L N h l ∧ ∀ p ∈ ns, G' p.1 = some p.2 := by
  have nd := F.nd
  rw [List.map_append, List.nodup_append] at nd
  have F₀ : Fm G L N h l := F.swap (fun q hq => List.mem_append_left _ hq) nd.1
  refine ⟨_, F₀.rebase.1, F₀.rebase.2, fun p hp => ?_⟩
  have z := F.nw p (List.mem_append_right _ hp)
  rw [offAll_out]
  · exact z.1
  · intro q
    rcases List.mem_cons.mp q with q | q
    · exact z.2.2 q
    · exact nd.2.2 _ q _ (List.mem_map_of_mem hp) rfl
theorem Fm.lent {G : PH} {L : Addr} {N ns : List (Addr × Obj)} {h : Heap} {l : List (Str × Value)} (F : Fm G L (N ++ ns) h l) : (∀ p ∈ ns, h.get? p.1 = some p.2 ∧ G p.1 = none) ∧ (ns.map (·.1)).Nodup := by
  have nd := F.nd
  rw [List.map_append, List.nodup_append] at nd
  exact ⟨fun p hp => let z := F.nw p (List.mem_append_right _ hp); ⟨z.1, z.2.1⟩, nd.2.1⟩
section
variable {fa : Addr} {cd : Value} {prog : Program} {w : World} {s : Shared} {A : Around} {h : Heap} {G : PH} {L : Addr} {N : List (Addr × Obj)} {l : List (Str × Value)} {o : Obj} {g : Obj → List (Addr × Obj)} {mg mb : Str → Option Value}
theorem w_kind3 {a : Addr} {e i : Expr} {t0 t1 t2 td : Tok} {x0 x1 x2 : Str} {d : Int} {Q : Value → Heap → Prop} (F : Fm G L N h l) (U : AtF a o N g) (D : LO o [Value.str x0 t0, .str x1 t1, .str x2 t2]) (h0 : 0 ≤ d) (h1 : d < 3) (k : ∀ kd t, Q (.str kd t) h)
    (hs : subscripted i false (.ref a) (.int d td) = operate [.ref a, .int d td] (getItem (.ref a) (.int d td)) := by with_unfolding_all rfl) : W prog w s A h (subscriptTail e i (.ref a) (.int d td)) Q := by
  have : ∃ f t, [Value.str x0 t0, .str x1 t1, .str x2 t2][d.toNat]? = some (.str f t) := by
    obtain rfl | rfl | rfl : d = 0 ∨ d = 1 ∨ d = 2 := by walk_at "om"
    all_goals exact ⟨_, _, rfl⟩
  obtain ⟨f, t, e⟩ := this
  exact w_subLed F U D h0 (by walk_at "om") e (k _ _) hs
theorem law_a {c1 c2 c3 c4 ra tb gd ow : Addr} {M : Marks} {O : List (Int × List PRow)} {rs : List Row} {r : Row} {n : Nat} {way flag : Int} {tw tf tn : Tok} {Q : Flow → Heap → Prop}
    (F : Fm G L N h [("way", .int way tw), ("rows", .ref ra), ("flag", .int flag tf), ("table", .ref tb), ("gdef", .ref gd), ("at", .int n tn)])
    (S : Stat (hd.heap_39 w.params) mg mb G) (R : Rm A 20) (T : TblG G ra rs) (rk : ∀ r ∈ rs, ROk r) (r7 : rs.length ≤ 7) (hf : flag ∈ flags) (w0 : 0 ≤ way) (w1 : way < 3) (TW : TabW prog w G way tb ow O) (GD : GdefG prog w G gd) (MD : MapG OwnV prog w G ow M) (hS : Shp M O)
    (hO : way ≠ 1 → ∀ g ps, O.lookup g = some ps → ps.length = 1) (er : rs[n]? = some r)
    (k : ∀ h' G' b row vs ns fs heard th bw ll, Le G G' → InstG G' b 221 [("row", .ref row), ("is_backward", bw), ("last_lig", ll)] → LstG G' row vs → InfsAre G' vs ns fs → (∀ p ∈ ns, G' p.1 = some p.2) → Outc rs n (seat M (glOf way flag rs n O) r.g) heard fs →
      Fm G' L N h' [("way", .int way tw), ("rows", .ref ra), ("flag", .int flag tf), ("table", .ref tb), ("gdef", .ref gd), ("at", .int n tn), ("buffer", .ref b), ("heard", .int heard th)] → W prog w s A h' (execs (loopBody.drop 3) (lawEnv fa cd L c1 c2 c3 c4)) Q) :
    W prog w s A h (execs (loopBody.drop 0) (lawEnv fa cd L c1 c2 c3 c4)) Q := by
  refine law_in F ?_
  clear F
  intro e₀ l₀ F
  change W _ _ _ _ _ (execs (Stmt.Assign _ _ _ :: _) _) _
  repeat' walk_at "z"
  refine w_infos F S (by walk_at "rm") T (by walk_at "om") ?_
  intro h₁ G1 al vs ns le1 V X F
  replace S := S.mono le1
  replace GD := GD.mono le1
  replace TW := TW.mono le1
  replace MD := MD.mono (fun _ _ x => x.mono le1) le1
  repeat' walk_at "z"
  refine sp_Buffer (by walk_at "st") (by walk_at "rm") ?_
  intro h₂ b le t1 I1
  refine I1.stdK F le ?_
  intro G2 le2 F I1 _
  replace S := S.mono le2
  replace GD := GD.mono le2
  replace TW := TW.mono le2
  replace MD := MD.mono (fun _ _ x => x.mono le2) le2
  replace V := V.mono le2
  replace X := X.mono le2
  repeat' walk_at "z"
  rename Fm _ _ _ _ _ => F
  refine w_kind3 F AtF.head LO.new w0 w1 ?_
  intro kd kt
  replace F := F.drop
  repeat' walk_at "z"
  rename Fm _ _ _ _ _ => F
  refine F.settleK ?_
  intro G3 le3 F e3
  refine F.settleK ?_
  intro G4 le4 F e4
  have le5 := le3.trans le4
  replace S := S.mono le5
  replace GD := GD.mono le5
  replace TW := TW.mono le5
  replace MD := MD.mono (fun _ _ x => x.mono le5) le5
  replace V := V.mono le5
  replace X := X.mono le5
  replace I1 := I1.mono le5
  repeat' walk_at "z"
  refine sp_Lookup (by walk_at "st") (by walk_at "rm") ?_
  intro h₂ lk le I2
  refine I2.stdK F le ?_
  intro G6 le6 F I2 _
  replace S := S.mono le6
  repeat' walk_at "z"
  refine sp_Scene5 (by walk_at "st") (by walk_at "rm") ?_
  intro h₂ sc le I3
  refine I3.stdK F le ?_
  intro G7 le7 F I3 _
  have le8 := le6.trans le7
  replace S := S.mono le7
  replace GD := GD.mono le8
  replace TW := TW.mono le8
  replace MD := MD.mono (fun _ _ x => x.mono le8) le8
  replace V := V.mono le8
  replace X := X.mono le8
  replace I1 := I1.mono le8
  replace I2 := I2.mono le7
  have Sc : ScnG prog w G7 sc b al flag := ⟨_, _, _, _, _, _, _, _, _, _, _, _, _, _, I3, I1, I2, GD⟩
  have leA := (le1.trans le2).trans (le5.trans le8)
  have ef : (rs.map inf0)[n]? = some (inf0 r) := by rw [List.getElem?_map, er]; rfl
  have hlf : (rs.map inf0).length ≤ 100 := by rw [List.length_map]; walk_at "om"
  repeat' walk_at "z"
  all_goals (
    rename Fm _ _ _ _ _ => F
    have F' := F.perm (N' := N ++ ns) List.perm_append_comm
    have hN := F'.lent
    clear F)
  · have hw : way = 0 := by walk_at "om"
    obtain ⟨bd, TB, BD⟩ := TW.2.1 hw
    refine sp_apply_base F'.keep S (by walk_at "rm") hN.1 hN.2 X Sc V TB MD BD hS (hO (by walk_at "om")) ef hlf ?_ ?_
    · intro hs h₃ le t
      rw [map_inf0, goal0_congr (fun r hr => pas8 (rk r hr))] at hs
      obtain ⟨G8, le9, F, e⟩ := (F'.keeps le).settles
      refine w_store F ?_
      intro h₄ F
      refine w_app0 ?_
      refine k _ G8 b al vs ns _ _ _ _ _ (leA.trans le9) (I1.mono le9) (V.mono le9) (X.mono le9) e ?_ (F.to _ ⟨rfl, rfl, rfl, rfl, rfl, rfl, rfl, rfl, trivial⟩)
      unfold glOf
      rw [if_pos hw]
      have hs' : seat M (goal0 (ahd (-1)) rs n O) r.g = none := hs
      rw [hs']
      exact ⟨rfl, rfl⟩
    · intro j dx dy hs h₃ ns' m le e ea mn X' t
      rw [map_inf0, goal0_congr (fun r hr => pas8 (rk r hr))] at hs
      obtain ⟨G8, le9, F, e⟩ := (F'.turn le e ea).settles
      refine w_store F ?_
      intro h₄ F
      refine w_app0 ?_
      refine k _ G8 b al vs ns' _ _ _ _ _ (leA.trans le9) (I1.mono le9) (V.mono le9) (X'.mono le9) e ?_ (F.to _ ⟨rfl, rfl, rfl, rfl, rfl, rfl, rfl, rfl, trivial⟩)
      unfold glOf
      rw [if_pos hw]
      have hs' : seat M (goal0 (ahd (-1)) rs n O) r.g = some (j, dx, dy) := hs
      rw [hs']
      exact ⟨rfl, m, r, er, mn, rfl⟩
  · have hw : way = 1 := by walk_at "om"
    obtain ⟨bd, TB, BD⟩ := TW.1 hw
    refine sp_apply_component F'.keep S (by walk_at "rm") hN.1 hN.2 X Sc V TB MD BD hS (fun f hf => by obtain ⟨r, hr, rfl⟩ := List.mem_map.mp hf; have := (rk r hr).i; show 0 ≤ r.i; walk_at "om") ef hlf ?_ ?_
    · intro hs h₃ le t
      rw [map_inf0, goal1_congr (fun r hr => pas8 (rk r hr))] at hs
      obtain ⟨G8, le9, F, e⟩ := (F'.keeps le).settles
      refine w_store F ?_
      intro h₄ F
      refine w_app0 ?_
      refine k _ G8 b al vs ns _ _ _ _ _ (leA.trans le9) (I1.mono le9) (V.mono le9) (X.mono le9) e ?_ (F.to _ ⟨rfl, rfl, rfl, rfl, rfl, rfl, rfl, rfl, trivial⟩)
      unfold glOf
      rw [if_neg (by walk_at "om"), if_pos hw]
      have hs' : seat M (goal1 (ahd (-1)) rs n O) r.g = none := hs
      rw [hs']
      exact ⟨rfl, rfl⟩
    · intro j dx dy hs h₃ ns' m le e ea mn X' t
      rw [map_inf0, goal1_congr (fun r hr => pas8 (rk r hr))] at hs
      obtain ⟨G8, le9, F, e⟩ := (F'.turn le e ea).settles
      refine w_store F ?_
      intro h₄ F
      refine w_app0 ?_
      refine k _ G8 b al vs ns' _ _ _ _ _ (leA.trans le9) (I1.mono le9) (V.mono le9) (X'.mono le9) e ?_ (F.to _ ⟨rfl, rfl, rfl, rfl, rfl, rfl, rfl, rfl, trivial⟩)
      unfold glOf
      rw [if_neg (by walk_at "om"), if_pos hw]
      have hs' : seat M (goal1 (ahd (-1)) rs n O) r.g = some (j, dx, dy) := hs
      rw [hs']
      exact ⟨rfl, m, r, er, mn, rfl⟩
  · have hw : way = 2 := by walk_at "om"
    obtain ⟨bd, TB, BD⟩ := TW.2.2 hw
    refine sp_apply_mark F'.keep S (by walk_at "rm") hN.1 hN.2 X Sc V TB MD BD hS (hO (by walk_at "om")) ef hlf ?_ ?_
    · intro hs h₃ le t
      rw [map_inf0, goal2_congr (fun r hr => pasf (rk r hr) hf)] at hs
      obtain ⟨G8, le9, F, e⟩ := (F'.keeps le).settles
      refine w_store F ?_
      intro h₄ F
      refine w_app0 ?_
      refine k _ G8 b al vs ns _ _ _ _ _ (leA.trans le9) (I1.mono le9) (V.mono le9) (X.mono le9) e ?_ (F.to _ ⟨rfl, rfl, rfl, rfl, rfl, rfl, rfl, rfl, trivial⟩)
      unfold glOf
      rw [if_neg (by walk_at "om"), if_neg (by walk_at "om")]
      have hs' : seat M (goal2 (ahd flag) rs n O) r.g = none := hs
      rw [hs']
      exact ⟨rfl, rfl⟩
    · intro j dx dy hs h₃ ns' m le e ea mn X' t
      rw [map_inf0, goal2_congr (fun r hr => pasf (rk r hr) hf)] at hs
      obtain ⟨G8, le9, F, e⟩ := (F'.turn le e ea).settles
      refine w_store F ?_
      intro h₄ F
      refine w_app0 ?_
      refine k _ G8 b al vs ns' _ _ _ _ _ (leA.trans le9) (I1.mono le9) (V.mono le9) (X'.mono le9) e ?_ (F.to _ ⟨rfl, rfl, rfl, rfl, rfl, rfl, rfl, rfl, trivial⟩)
      unfold glOf
      rw [if_neg (by walk_at "om"), if_neg (by walk_at "om")]
      have hs' : seat M (goal2 (ahd flag) rs n O) r.g = some (j, dx, dy) := hs
      rw [hs']
      exact ⟨rfl, m, r, er, mn, rfl⟩
end
theorem g0_row {P : Row → Bool} {rs : List Row} {n j : Nat} {O : List (Int × List PRow)} {row : PRow} (e : goal0 P rs n O = some (j, row)) : ∃ g ps, O.lookup g = some ps ∧ row ∈ ps := by
  unfold goal0 at e
  repeat' split at e
  all_goals first
    | cases e; done
    | (obtain ⟨x, ex, e⟩ := Option.map_eq_some_iff.mp e; cases e; exact ⟨_, _, ‹_›, List.mem_of_getElem? ex⟩)
theorem g1_row {P : Row → Bool} {rs : List Row} {n j : Nat} {O : List (Int × List PRow)} {row : PRow} (e : goal1 P rs n O = some (j, row)) : ∃ g ps, O.lookup g = some ps ∧ row ∈ ps := by
  unfold goal1 at e
  repeat' split at e
  all_goals first
    | cases e; done
    | (obtain ⟨x, ex, e⟩ := Option.map_eq_some_iff.mp e; cases e; exact ⟨_, _, ‹_›, List.mem_of_getElem? ex⟩)
theorem g2_row {P : Row → Bool} {rs : List Row} {n j : Nat} {O : List (Int × List PRow)} {row : PRow} (e : goal2 P rs n O = some (j, row)) : ∃ g ps, O.lookup g = some ps ∧ row ∈ ps := by
  unfold goal2 at e
  repeat' split at e
  all_goals first
    | cases e; done
    | (obtain ⟨x, ex, e⟩ := Option.map_eq_some_iff.mp e; cases e; exact ⟨_, _, ‹_›, List.mem_of_getElem? ex⟩)
theorem gl_row {way flag : Int} {rs : List Row} {n j : Nat} {O : List (Int × List PRow)} {row : PRow} (e : glOf way flag rs n O = some (j, row)) : ∃ g ps, O.lookup g = some ps ∧ row ∈ ps := by
  unfold glOf at e
  repeat' split at e
  · exact g0_row e
  · exact g1_row e
  · exact g2_row e
section
variable {fa : Addr} {cd : Value} {prog : Program} {w : World} {s : Shared} {A : Around} {h : Heap} {G : PH} {L : Addr} {N : List (Addr × Obj)} {l : List (Str × Value)} {o : Obj} {g : Obj → List (Addr × Obj)} {mg mb : Str → Option Value}
theorem sp_goal {rows d : Addr} {way flag : Int} {t t' t'' : Tok} {rs : List Row} {n : Nat} {O : List (Int × List PRow)} {G₀ : PH} {Q : Value → Heap → Prop} (S : Stat (hd.heap_39 w.params) mg mb h.get?) (R : Rm A 5) (J : TblG h.get? rows rs)
    (k₀ : Le G₀ h.get?) (D : MapG PartsV prog w G₀ d O) (h1 : way ≠ 1 → ∀ g ps, O.lookup g = some ps → ps.length = 1) (hO : ∀ g ps, O.lookup g = some ps → ps.length ≤ 100) (w0 : 0 ≤ way) (w1 : way < 3) (hi : n < rs.length) (hn : rs.length ≤ 100)
    (k : ∀ h', Le h.get? h'.get? → ∀ a pi t v, GoalV G₀ (glOf way flag rs n O) pi v → TupG h'.get? a [.int pi t, v] → Q (.ref a) h') : W prog w s A h (call (.ref 620) [.int way t, .ref rows, .int n t', .int flag t'', .ref d]) Q := by
  obtain rfl | rfl | rfl : way = 0 ∨ way = 1 ∨ way = 2 := by walk_at "om"
  · exact sp_law_goal0 S R J k₀ D (h1 (by decide)) (by walk_at "om") (by walk_at "om") hn k
  · exact sp_law_goal1 S R J k₀ D hO (by walk_at "om") (by walk_at "om") hn k
  · exact sp_law_goal2 S R J k₀ D (h1 (by decide)) (by walk_at "om") (by walk_at "om") hn k
theorem law_b {tbl gd : Addr} {c1 c2 c3 c4 ra md od b : Addr} {M : Marks} {O : List (Int × List PRow)} {rs : List Row} {r : Row} {n : Nat} {way flag hv : Int} {tw tf tn th : Tok} {Q : Flow → Heap → Prop}
    (F : Fm G L N h [("way", .int way tw), ("rows", .ref ra), ("flag", .int flag tf), ("table", .ref tbl), ("gdef", .ref gd), ("at", .int n tn), ("buffer", .ref b), ("heard", .int hv th)])
    (S : Stat (hd.heap_39 w.params) mg mb G) (R : Rm A 20) (T : TblG G ra rs) (r7 : rs.length ≤ 7) (w0 : 0 ≤ way) (w1 : way < 3) (C2 : CellG G c2 (.ref md)) (MK : MapG MarkV prog w G md M) (C3 : CellG G c3 (.ref od)) (OG : MapG PartsV prog w G od O) (hS : Shp M O)
    (hO : way ≠ 1 → ∀ g ps, O.lookup g = some ps → ps.length = 1) (er : rs[n]? = some r)
    (kn : seat M (glOf way flag rs n O) r.g = none → ∀ h' G' du oo pi pt, Le G G' → PL oo [] → Fm G' L ((du, oo) :: N) h' [("way", .int way tw), ("flag", .int flag tf), ("table", .ref tbl), ("gdef", .ref gd), ("rows", .ref ra), ("at", .int n tn), ("buffer", .ref b), ("heard", .int hv th), ("place", .int pi pt), ("goal", .none), ("due", .ref du)] → W prog w s A h' (execs (loopBody.drop 6) (lawEnv fa cd L c1 c2 c3 c4)) Q)
    (ks : ∀ j c ox oy ax ay, seat M (glOf way flag rs n O) r.g = some (j, ax - ox, ay - oy) → M.lookup r.g = some (c, ox, oy) → ∀ h' G' du oo x pt t1 t2, Le G G' → PL oo [] → TupG G' x [.int ax t1, .int ay t2] →
      Fm G' L ((du, oo) :: N) h' [("way", .int way tw), ("flag", .int flag tf), ("table", .ref tbl), ("gdef", .ref gd), ("rows", .ref ra), ("at", .int n tn), ("buffer", .ref b), ("heard", .int hv th), ("place", .int (j : Nat) pt), ("goal", .ref x), ("due", .ref du)] → W prog w s A h' (execs (loopBody.drop 6) (lawEnv fa cd L c1 c2 c3 c4)) Q) :
    W prog w s A h (execs (loopBody.drop 3) (lawEnv fa cd L c1 c2 c3 c4)) Q := by
  refine law_in F ?_
  clear F
  intro e₀ l₀ F
  change W _ _ _ _ _ (execs (Stmt.Assign _ _ _ :: _) _) _
  have hnl : n < rs.length := by
    rcases Nat.lt_or_ge n rs.length with q | q
    · exact q
    · rw [List.getElem?_eq_none q] at er; cases er
  repeat' walk_at "z"
  refine sp_goal (by walk_at "st") (by walk_at "rm") (T.mono F.keep) F.keep OG hO (fun g ps e => hS.few g ps e) w0 w1 hnl (by walk_at "om") ?_
  intro h₁ le a pi pt v gv TA
  replace F := F.keeps le
  generalize hgl : glOf way flag rs n O = gl at *
  rcases gl with _ | ⟨j, row⟩
  · obtain ⟨rfl, rfl⟩ := gv
    have hs : seat M none r.g = none := by unfold seat; split <;> first | rfl | (rename_i q; cases q)
    repeat' walk_at "z"
    rename Fm _ _ _ _ _ => F
    exact kn hs _ G _ _ _ _ (Le.refl _) PL.new (F.to _ ⟨rfl, rfl, rfl, rfl, rfl, rfl, rfl, rfl, rfl, rfl, rfl, trivial⟩)
  · obtain ⟨rfl, al', us, rfl, Lr, Vr⟩ := gv
    repeat' walk_at "z"
    refine w_tblAt T (by walk_at "le") (by walk_at "om") (by walk_at "om") er ?_
    intro x u1 u2 u3 u4 u5 Tx
    repeat' walk_at "z"
    · rename Option.isSome _ = false => hb
      have hb : M.lookup r.g = none := by simpa using hb
      rename Fm _ _ _ _ _ => F
      exact kn (by unfold seat; rw [hb]) _ G _ _ _ _ (Le.refl _) PL.new (F.to _ ⟨rfl, rfl, rfl, rfl, rfl, rfl, rfl, rfl, rfl, rfl, rfl, trivial⟩)
    rename Option.isSome _ = true => hb
    obtain ⟨⟨c, ox, oy⟩, hm⟩ := Option.isSome_iff_exists.mp hb
    refine w_tblAt T (by walk_at "le") (by walk_at "om") (by walk_at "om") er ?_
    intro x u1 u2 u3 u4 u5 Tx
    repeat' walk_at "z"
    refine w_mapAt MK (by walk_at "le") hm ?_
    rintro v ⟨ma, mb', mt, mt1, mt2, rfl, T1, T2⟩
    repeat' walk_at "z"
    obtain ⟨g', ps, hl, hr⟩ := gl_row hgl
    have hr2 := hS.rows _ _ hl _ hr
    have hc := hS.cls _ _ _ _ hm
    obtain ⟨pl, hpl⟩ := row_two hr2 hc
    obtain ⟨u, eu, pu⟩ := prd_get Vr hpl
    refine w_subList Lr (by walk_at "le") (by walk_at "om") (by walk_at "om") eu ?_
    rcases pl with _ | ⟨ax, ay⟩
    · cases pu
      repeat' walk_at "z"
      rename Fm _ _ _ _ _ => F
      exact kn (by unfold seat; simp only [hm, hpl]) _ G _ _ _ _ (Le.refl _) PL.new (F.to _ ⟨rfl, rfl, rfl, rfl, rfl, rfl, rfl, rfl, rfl, rfl, rfl, trivial⟩)
    · obtain ⟨gb, t1, t2, rfl, Tg⟩ := pu
      repeat' walk_at "z"
      rename Fm _ _ _ _ _ => F
      exact ks j c ox oy ax ay (by unfold seat; simp only [hm, hpl]) hm _ G _ _ _ _ _ _ (Le.refl _) PL.new Tg (F.to _ ⟨rfl, rfl, rfl, rfl, rfl, rfl, rfl, rfl, rfl, rfl, rfl, trivial⟩)
end
local macro_rules | `(tactic| walk_at "tb") => `(tactic| ((refine' w_tblAt ?I ?kG ?h0 ?hn ?hr ?_); (case I => walk_at "as"); (case kG => walk_at "le"); (case h0 => walk_at "om"); (case hn => walk_at "om"); (case hr => assumption); intro xz uz1 uz2 uz3 uz4 uz5 Tx; repeat' walk_at "z"))
noncomputable def spotBody : List Stmt := loopOf (loopBody.drop 6)
theorem due_of {G : PH} {a : Addr} {ri : Row} {u u' : Bool} {xo yo pa : Int} {bo : Str} {t1 t2 t3 t4 t5 t6 t7 t8 t9 t10 : Tok} (e : u = u') (T : TupG G a [.int ri.g t1, .int ri.c t2, .int 0 t3, .int 0 t4, .int xo t5, .int yo t6, .int pa t7, .str bo t8, .bool u', .int ri.i t9, .int ri.p t10]) :
    DueV G (.ref a) ⟨ri, u, xo, yo, pa, bo⟩ := ⟨a, t1, t2, t3, t4, t5, t6, t7, t8, t9, t10, rfl, by subst e; exact T⟩
section
variable {fa : Addr} {cd : Value} {prog : Program} {w : World} {s : Shared} {A : Around} {h : Heap} {G : PH} {L : Addr} {N : List (Addr × Obj)} {l : List (Str × Value)} {o : Obj} {g : Obj → List (Addr × Obj)} {mg mb : Str → Option Value}
theorem law_s0 {way flag : Int} {tw tf : Tok} {tbl gd : Addr} {c1 c2 c3 c4 du ra oa b : Addr} {oo : Obj} {vs : List Value} {rs : List Row} {ri : Row} {i n : Nat} {xo yo pa hv pi : Int} {bo : Str} {tn ti tp tb t1 t2 th pt : Tok} {Q : Flow → Heap → Prop} (F : Fm G L N h l)
    (hl : Has (al l) [("way", .int way tw), ("flag", .int flag tf), ("table", .ref tbl), ("gdef", .ref gd), ("rows", .ref ra), ("at", .int n tn), ("buffer", .ref b), ("heard", .int hv th), ("place", .int pi pt), ("goal", .none), ("due", .ref du), ("spot", .int i ti), ("offset", .ref oa), ("parent", .int pa tp), ("bond", .str bo tb)])
    (S : Stat (hd.heap_39 w.params) mg mb G) (R : Rm A 15) (T : TblG G ra rs) (r7 : rs.length ≤ 7) (U : AtF du oo N g) (D : PL oo vs) (hvs : vs.length ≤ 100) (TO : TupG G oa [.int xo t1, .int yo t2]) (ei : rs[i]? = some ri)
    (k : ∀ h' G' oo' v, Le G G' → PL oo' (vs ++ [v]) → DueV G' v ⟨ri, false, xo, yo, pa, bo⟩ → Fm G' L (g oo') h' [("way", .int way tw), ("flag", .int flag tf), ("table", .ref tbl), ("gdef", .ref gd), ("rows", .ref ra), ("at", .int n tn), ("buffer", .ref b), ("heard", .int hv th), ("place", .int pi pt), ("goal", .none), ("due", .ref du)] → Q .next h') :
    W prog w s A h (execs (spotBody.drop 2) (lawEnv fa cd L c1 c2 c3 c4)) Q := by
  refine law_in F ?_
  clear F
  intro e₀ l₀ F
  change W _ _ _ _ _ (execs (Stmt.Assign _ _ _ :: _) _) _
  replace F := F.to _ hl
  repeat' walk_at "z"
  rename Fm _ _ _ _ _ => F
  refine w_appendPM F U D ?_
  repeat' walk_at "z"
  walk_at "tb"
  walk_at "tb"
  walk_at "tb"
  walk_at "tb"
  rename Fm _ _ _ _ _ => F
  refine F.settleK ?_
  intro G2 le2 F e2
  refine w_appendP F U D (by rw [sizeLine_eq]; walk_at "om") ?_
  intro oo' h₂ D' F
  repeat' walk_at "z"
  exact k _ G2 oo' _ le2 D' ⟨_, _, _, _, _, _, _, _, _, _, _, rfl, TupG.of e2⟩ (F.to _ ⟨rfl, rfl, rfl, rfl, rfl, rfl, rfl, rfl, rfl, rfl, rfl, trivial⟩)
theorem law_s1 {way flag : Int} {tw tf : Tok} {tbl gd : Addr} {c1 c2 c3 c4 du ra oa b x : Addr} {oo : Obj} {vs : List Value} {rs : List Row} {ri : Row} {i j n : Nat} {xo yo pa hv m : Int} {bo : Str} {tn ti tp tb t1 t2 th pt : Tok} {Q : Flow → Heap → Prop} (F : Fm G L N h l)
    (hl : Has (al l) [("way", .int way tw), ("flag", .int flag tf), ("table", .ref tbl), ("gdef", .ref gd), ("rows", .ref ra), ("at", .int n tn), ("buffer", .ref b), ("heard", .int hv th), ("place", .int (j : Nat) pt), ("goal", .ref x), ("due", .ref du), ("spot", .int i ti), ("offset", .ref oa), ("parent", .int pa tp), ("bond", .str bo tb)])
    (S : Stat (hd.heap_39 w.params) mg mb G) (R : Rm A 15) (T : TblG G ra rs) (r7 : rs.length ≤ 7) (U : AtF du oo N g) (D : PL oo vs) (hvs : vs.length ≤ 100) (TO : TupG G oa [.int xo t1, .int yo t2]) (ei : rs[i]? = some ri) (hn : n < rs.length) (mn : isMin m (clus (rs.map inf0) j (n + 1)))
    (k : ∀ h' G' oo' v, Le G G' → PL oo' (vs ++ [v]) → DueV G' v ⟨ri, decide (j ≤ i ∧ i < n + 1 ∧ ri.c ≠ m), xo, yo, pa, bo⟩ → Fm G' L (g oo') h' [("way", .int way tw), ("flag", .int flag tf), ("table", .ref tbl), ("gdef", .ref gd), ("rows", .ref ra), ("at", .int n tn), ("buffer", .ref b), ("heard", .int hv th), ("place", .int (j : Nat) pt), ("goal", .ref x), ("due", .ref du)] → Q .next h') :
    W prog w s A h (execs (spotBody.drop 2) (lawEnv fa cd L c1 c2 c3 c4)) Q := by
  refine law_in F ?_
  clear F
  intro e₀ l₀ F
  change W _ _ _ _ _ (execs (Stmt.Assign _ _ _ :: _) _) _
  replace F := F.to _ hl
  have T' := T
  obtain ⟨ws, Lw, Vw⟩ := T'
  have hw := Vw.length
  repeat' walk_at "z"
  rotate_left 1
  have dq : decide (j ≤ i ∧ i < n + 1 ∧ ri.c ≠ m) = decide ((i : Int) ≤ n) := decide_eq_decide.mpr ⟨fun _ => by walk_at "om", fun _ => by walk_at "om"⟩
  rotate_left 1
  all_goals try (exfalso; walk_at "om"; done)
  have dq : decide (j ≤ i ∧ i < n + 1 ∧ ri.c ≠ m) = decide ((j : Int) ≤ i) := decide_eq_decide.mpr ⟨fun _ => by walk_at "om", fun _ => by walk_at "om"⟩
  rotate_left 1
  walk_at "tb"
  refine w_comp rfl (by decide) rfl (by decide) rfl ?_
  refine w_slice ?_
  repeat' walk_at "z"
  refine ⟨ra, ws, some (j : Int), some ((n : Int) + 1), G, G, L, N, _, rfl, Lw, F.keep, F, by rw [sizeLine_eq]; walk_at "om", .int _ _, .int _ _, ?_⟩
  intro st o₁ h₂ F₂ kz Dl
  clear F
  have hji : (j : Int) ≤ i := by walk_at "om"
  have hin : (i : Int) ≤ n := by walk_at "om"
  have q1 : clipAt ws.length (j : Int) = j := by rw [clipAt_nat]; walk_at "om"
  have q2 : clipAt ws.length ((n : Int) + 1) = n + 1 := by rw [show ((n : Int) + 1) = ((n + 1 : Nat) : Int) by walk_at "om", clipAt_nat]; walk_at "om"
  simp only [Option.elim, q1, q2] at Dl
  have hsl : (List.take (n + 1 - j) (List.drop j ws)).length = n + 1 - j := by rw [List.length_take, List.length_drop]; walk_at "om"
  have hgl : ∀ e v, (List.take (n + 1 - j) (List.drop j ws))[e]? = some v → e < n + 1 - j ∧ ws[j + e]? = some v := by
    intro e v q
    rw [List.getElem?_take] at q
    split at q
    · rw [List.getElem?_drop] at q; exact ⟨‹_›, q⟩
    · cases q
  generalize List.take (n + 1 - j) (List.drop j ws) = us at *
  refine F₂.settleK ?_
  intro G2 le2 F e2
  have SL := Dl.lst e2
  replace S := S.mono le2
  refine (src_list (by walk_at "hh") SL F).mono ?_
  clear F F₂
  rintro it h₃ ⟨le3, X3⟩
  refine ⟨G2, _, _, _, _, _, fun e G' N' ys => N' = N ∧ IntsAre ys ((clus (rs.map inf0) j (n + 1)).take e), X3, by rw [sizeLine_eq]; walk_at "om", ⟨rfl, .nil⟩, ?_, ?_⟩
  · rintro e v G' C H N' ys h' he hve hG F' ⟨rfl, hy⟩
    obtain ⟨he', hw'⟩ := hgl e v hve
    have hel : j + e < rs.length := by walk_at "om"
    obtain ⟨v', ev, xa, t1, t2, t3, t4, t5, rfl, xt⟩ := prd_get Vw (i := j + e) (b := rs[j + e]) (by simp [hel])
    rw [hw'] at ev; cases ev
    replace xt := (xt.mono le2).mono hG
    replace S := S.mono hG
    repeat' walk_at "z"
    exact ⟨_, _, F', rfl, by rw [List.take_add_one, clus_get (f := inf0 rs[j + e]) he' (by simp [hel])]; exact ints_snoc' hy _ _⟩
  rintro G' cl o' N' ys h' hG3 F' D' hyl ⟨rfl, hy⟩
  refine F'.settleK ?_
  intro G3 le3 F e3
  have le4 := le2.trans (hG3.trans le3)
  have YL := D'.lst e3
  rw [hsl] at hy
  have hcl : (clus (rs.map inf0) j (n + 1)).length = n + 1 - j := by simp [clus]; walk_at "om"
  rw [List.take_of_length_le (by walk_at "om")] at hy
  replace S := S.mono (hG3.trans le3)
  replace T := T.mono le4
  replace TO := TO.mono le4
  repeat' walk_at "z"
  refine w_minList (by walk_at "hh") YL (by walk_at "le") hy (by walk_at "om") ?_
  walk_at "back"
  intro m' tm' mn'
  have hm : m = m' := mn.one mn'
  subst hm
  repeat' walk_at "z"
  have dq : decide (j ≤ i ∧ i < n + 1 ∧ ri.c ≠ m) = decide (ri.c ≠ m) := decide_eq_decide.mpr ⟨fun q => q.2.2, fun q => ⟨by walk_at "om", by walk_at "om", q⟩⟩
  all_goals (
    rename Fm _ _ _ _ _ => F
    refine w_appendPM F U D ?_
    repeat' walk_at "z"
    walk_at "tb"
    walk_at "tb"
    walk_at "tb"
    walk_at "tb"
    rename Fm _ _ _ _ _ => F
    refine F.settleK ?_
    intro G9 le9 F e9
    refine w_appendP F U D (by rw [sizeLine_eq]; walk_at "om") ?_
    intro oo' h₂ D' F
    repeat' walk_at "z"
    exact k _ G9 oo' _ (by first | exact le9 | exact le4.trans le9) D' (due_of dq (TupG.of e9)) (F.to _ ⟨rfl, rfl, rfl, rfl, rfl, rfl, rfl, rfl, rfl, rfl, rfl, trivial⟩))
end
local macro_rules | `(tactic| walk_at "zq") => `(tactic| ((fail_if_success (with_reducible show W _ _ _ _ _ (execs (Stmt.Assign [Expr.Name _ _] _ _ :: _) _) _)); walk_at "z"))
theorem fin_get {fs : List Inf} {i j n : Nat} {m xo yo pa : Int} {ri : Row} {bo : Str} (e : fs[i]? = some ⟨ri, false, xo, yo, pa, bo⟩) : (hangF j (n + 1) m fs)[i]? = some ⟨ri, decide (j ≤ i ∧ i < n + 1 ∧ ri.c ≠ m), xo, yo, pa, bo⟩ := by
  rw [hangF_get, e, Option.map_some]
  by_cases q : j ≤ i ∧ i < n + 1 ∧ ri.c ≠ m
  · rw [if_pos q, decide_eq_true q]
  · rw [if_neg q, decide_eq_false q]
section
variable {fa : Addr} {cd : Value} {prog : Program} {w : World} {s : Shared} {A : Around} {h : Heap} {G : PH} {L : Addr} {N : List (Addr × Obj)} {l : List (Str × Value)} {o : Obj} {g : Obj → List (Addr × Obj)} {mg mb : Str → Option Value}
theorem law_c0 {way flag : Int} {tw tf : Tok} {tbl gd : Addr} {c1 c2 c3 c4 du ra b : Addr} {oo : Obj} {rs : List Row} {n : Nat} {hv pi : Int} {tn th pt : Tok} {Q : Flow → Heap → Prop}
    (F : Fm G L ((du, oo) :: N) h [("way", .int way tw), ("flag", .int flag tf), ("table", .ref tbl), ("gdef", .ref gd), ("rows", .ref ra), ("at", .int n tn), ("buffer", .ref b), ("heard", .int hv th), ("place", .int pi pt), ("goal", .none), ("due", .ref du)])
    (S : Stat (hd.heap_39 w.params) mg mb G) (R : Rm A 15) (T : TblG G ra rs) (r7 : rs.length ≤ 7) (D : PL oo [])
    (k : ∀ h' G' oo' vs, Le G G' → PL oo' vs → Paired (DueV G') vs (rs.map inf0) → Fm G' L ((du, oo') :: N) h' [("way", .int way tw), ("flag", .int flag tf), ("table", .ref tbl), ("gdef", .ref gd), ("rows", .ref ra), ("at", .int n tn), ("buffer", .ref b), ("heard", .int hv th), ("place", .int pi pt), ("goal", .none), ("due", .ref du)] →
      W prog w s A h' (execs (loopBody.drop 7) (lawEnv fa cd L c1 c2 c3 c4)) Q) :
    W prog w s A h (execs (loopBody.drop 6) (lawEnv fa cd L c1 c2 c3 c4)) Q := by
  refine law_in F ?_
  clear F
  intro e₀ l₀ F
  change W _ _ _ _ _ (execs (Stmt.For _ _ _ _ _ :: _) _) _
  have T' := T
  obtain ⟨ws, Lw, Vw⟩ := T'
  have hw := Vw.length
  refine w_forRange ?_
  repeat' walk_at "z"
  refine w_range1 ?_
  walk_at "back"
  intro r hr
  rename Fm _ _ _ _ _ => F
  refine ⟨r, 0, _, 1, ws.length, G, L, _, _, fun i G' N' l' => ∃ (oo' : Obj) (vs : List Value), N' = (du, oo') :: N ∧ PL oo' vs ∧ Paired (DueV G') vs ((rs.map inf0).take i) ∧ Has (al l') [("way", .int way tw), ("flag", .int flag tf), ("table", .ref tbl), ("gdef", .ref gd), ("rows", .ref ra), ("at", .int n tn), ("buffer", .ref b), ("heard", .int hv th), ("place", .int pi pt), ("goal", .none), ("due", .ref du)],
    rfl, by walk_at "hh", hr, rng_small (by walk_at "om"), rng_size (by walk_at "om"), F, ⟨_, _, rfl, D, .nil, ⟨rfl, rfl, rfl, rfl, rfl, rfl, rfl, rfl, rfl, rfl, rfl, trivial⟩⟩, ?_, ?_⟩
  · rintro i v G' H N' l' h' hi ⟨u, rfl⟩ hG F' ⟨oo', vs, rfl, D, V, hl⟩
    replace F' := F'.to _ hl
    refine F'.letK ?_
    clear F'
    intro l₁ F'
    replace S := S.mono hG
    replace T := T.mono hG
    rw [show (0 : Int) + (i : Int) * 1 = i by walk_at "om"]
    have hi' : i < rs.length := by walk_at "om"
    have ei : rs[i]? = some rs[i] := by simp [hi']
    have hvl := V.length
    rw [List.length_take, List.length_map] at hvl
    repeat' walk_at "zq"
    rename Fm _ _ _ _ _ => F
    refine F.settleK ?_
    intro G2 le2 F e2
    refine F.settleK ?_
    intro G3 le3 F e3
    have le4 := le2.trans le3
    refine law_s0 (c1 := c1) (c2 := c2) (c3 := c3) (c4 := c4) F ⟨rfl, rfl, rfl, rfl, rfl, rfl, rfl, rfl, rfl, rfl, rfl, rfl, rfl, rfl, rfl, trivial⟩ (S.mono le4) R (T.mono le4) r7 (AtF.app AtF.head) D (by walk_at "om") (TupG.of e3) ei ?_
    intro h₃ G4 oo₂ v le5 D₂ dv F
    exact ⟨_, _, F.less (le4.trans le5), oo₂, vs ++ [v], rfl, D₂, prd_take (prd_mono V fun _ _ i => i.mono ((le4.trans le5).trans F.rebase.1)) (b := inf0 rs[i]) (by simp [hi']) (dv.mono F.rebase.1), ⟨rfl, rfl, rfl, rfl, rfl, rfl, rfl, rfl, rfl, rfl, rfl, trivial⟩⟩
  · rintro G' N' l' h' hG F' ⟨oo', vs, rfl, D, V, hl⟩
    replace F' := F'.to _ hl
    refine F'.letK ?_
    clear F'
    intro l₁ F'
    rw [hw, ← List.length_map (f := inf0), List.take_length] at V
    exact k _ G' oo' vs hG D V F'
theorem law_c1 {way flag : Int} {tw tf : Tok} {tbl gd : Addr} {c1 c2 c3 c4 du ra b x md : Addr} {oo : Obj} {M : Marks} {rs : List Row} {r : Row} {j n : Nat} {hv c ox oy ax ay m : Int} {tn th pt t1 t2 : Tok} {Q : Flow → Heap → Prop}
    (F : Fm G L ((du, oo) :: N) h [("way", .int way tw), ("flag", .int flag tf), ("table", .ref tbl), ("gdef", .ref gd), ("rows", .ref ra), ("at", .int n tn), ("buffer", .ref b), ("heard", .int hv th), ("place", .int (j : Nat) pt), ("goal", .ref x), ("due", .ref du)])
    (S : Stat (hd.heap_39 w.params) mg mb G) (R : Rm A 15) (T : TblG G ra rs) (r7 : rs.length ≤ 7) (D : PL oo []) (C2 : CellG G c2 (.ref md)) (MK : MapG MarkV prog w G md M) (TX : TupG G x [.int ax t1, .int ay t2]) (er : rs[n]? = some r) (hm : M.lookup r.g = some (c, ox, oy)) (mn : isMin m (clus (rs.map inf0) j (n + 1)))
    (k : ∀ h' G' oo' vs, Le G G' → PL oo' vs → Paired (DueV G') vs (hangF j (n + 1) m ((rs.map inf0).set n ⟨r, false, ax - ox, ay - oy, (j : Int) - n, "mark"⟩)) → Fm G' L ((du, oo') :: N) h' [("way", .int way tw), ("flag", .int flag tf), ("table", .ref tbl), ("gdef", .ref gd), ("rows", .ref ra), ("at", .int n tn), ("buffer", .ref b), ("heard", .int hv th), ("place", .int (j : Nat) pt), ("goal", .ref x), ("due", .ref du)] →
      W prog w s A h' (execs (loopBody.drop 7) (lawEnv fa cd L c1 c2 c3 c4)) Q) :
    W prog w s A h (execs (loopBody.drop 6) (lawEnv fa cd L c1 c2 c3 c4)) Q := by
  refine law_in F ?_
  clear F
  intro e₀ l₀ F
  change W _ _ _ _ _ (execs (Stmt.For _ _ _ _ _ :: _) _) _
  have T' := T
  obtain ⟨ws, Lw, Vw⟩ := T'
  have hw := Vw.length
  have hnl : n < rs.length := by
    rcases Nat.lt_or_ge n rs.length with q | q
    · exact q
    · rw [List.getElem?_eq_none q] at er; cases er
  refine w_forRange ?_
  repeat' walk_at "z"
  refine w_range1 ?_
  walk_at "back"
  intro r' hr
  rename Fm _ _ _ _ _ => F
  generalize hfs : hangF j (n + 1) m ((rs.map inf0).set n ⟨r, false, ax - ox, ay - oy, (j : Int) - n, "mark"⟩) = fs at *
  have hfl : fs.length = rs.length := by rw [← hfs]; simp [hangF]
  refine ⟨r', 0, _, 1, ws.length, G, L, _, _, fun i G' N' l' => ∃ (oo' : Obj) (vs : List Value), N' = (du, oo') :: N ∧ PL oo' vs ∧ Paired (DueV G') vs (fs.take i) ∧ Has (al l') [("way", .int way tw), ("flag", .int flag tf), ("table", .ref tbl), ("gdef", .ref gd), ("rows", .ref ra), ("at", .int n tn), ("buffer", .ref b), ("heard", .int hv th), ("place", .int (j : Nat) pt), ("goal", .ref x), ("due", .ref du)],
    rfl, by walk_at "hh", hr, rng_small (by walk_at "om"), rng_size (by walk_at "om"), F, ⟨_, _, rfl, D, .nil, ⟨rfl, rfl, rfl, rfl, rfl, rfl, rfl, rfl, rfl, rfl, rfl, trivial⟩⟩, ?_, ?_⟩
  · rintro i v G' H N' l' h' hi ⟨u, rfl⟩ hG F' ⟨oo', vs, rfl, D, V, hl⟩
    replace F' := F'.to _ hl
    refine F'.letK ?_
    clear F'
    intro l₁ F'
    replace S := S.mono hG
    replace T := T.mono hG
    replace C2 := C2.mono hG
    replace MK := MK.mono (fun _ _ x => x.mono hG) hG
    replace TX := TX.mono hG
    rw [show (0 : Int) + (i : Int) * 1 = i by walk_at "om"]
    have hi' : i < rs.length := by walk_at "om"
    have ei : rs[i]? = some rs[i] := by simp [hi']
    generalize rs[i] = ri at *
    have hvl := V.length
    rw [List.length_take] at hvl
    repeat' walk_at "zq"
    · refine w_assign ?_
      repeat' walk_at "zq"
      refine w_tblAt T (by walk_at "le") (by walk_at "om") (by walk_at "om") er ?_
      intro xa u1 u2 u3 u4 u5 Tx
      repeat' walk_at "zq"
      refine w_mapAt MK (by walk_at "le") hm ?_
      rintro v ⟨ma, mb', mt, mt1, mt2, rfl, T1, T2⟩
      repeat' walk_at "zq"
      rename Fm _ _ _ _ _ => F
      refine F.settleK ?_
      intro G2 le2 F e2
      refine F.settleK ?_
      intro G3 le3 F e3
      refine F.settleK ?_
      intro G4 le4 F e4
      refine F.settleK ?_
      intro G5 le5 F e5
      have le6 := le4.trans le5
      have le7 := le2.trans (le3.trans le6)
      refine law_s1 (c1 := c1) (c2 := c2) (c3 := c3) (c4 := c4) F ⟨rfl, rfl, rfl, rfl, rfl, rfl, rfl, rfl, rfl, rfl, rfl, rfl, rfl, rfl, rfl, trivial⟩ (S.mono le7) R (T.mono le7) r7 (AtF.app AtF.head) D (by walk_at "om") (TupG.of (le6 _ _ e3)) ei hnl mn ?_
      intro h₃ G8 oo₂ v le8 D₂ dv F
      have le9 := (le7.trans le8).trans F.rebase.1
      have hri : ri = r := by
        have hin : i = n := by walk_at "om"
        have q := ei
        rw [hin, er] at q
        exact (Option.some.inj q).symm
      have ef : fs[i]? = some ⟨ri, decide (j ≤ i ∧ i < n + 1 ∧ ri.c ≠ m), ax - ox, ay - oy, (j : Int) - n, "mark"⟩ := by
        rw [← hfs]
        refine fin_get ?_
        rw [show i = n by walk_at "om", List.getElem?_set_self (by simp; walk_at "om"), hri]
      exact ⟨_, _, F.less (le7.trans le8), oo₂, vs ++ [v], rfl, D₂, prd_take (prd_mono V fun _ _ i => i.mono le9) ef (dv.mono F.rebase.1), ⟨rfl, rfl, rfl, rfl, rfl, rfl, rfl, rfl, rfl, rfl, rfl, trivial⟩⟩
    · rename Fm _ _ _ _ _ => F
      refine F.settleK ?_
      intro G2 le2 F e2
      refine F.settleK ?_
      intro G3 le3 F e3
      have le7 := le2.trans le3
      refine law_s1 (c1 := c1) (c2 := c2) (c3 := c3) (c4 := c4) F ⟨rfl, rfl, rfl, rfl, rfl, rfl, rfl, rfl, rfl, rfl, rfl, rfl, rfl, rfl, rfl, trivial⟩ (S.mono le7) R (T.mono le7) r7 (AtF.app AtF.head) D (by walk_at "om") (TupG.of e3) ei hnl mn ?_
      intro h₃ G8 oo₂ v le8 D₂ dv F
      have le9 := (le7.trans le8).trans F.rebase.1
      have ef : fs[i]? = some ⟨ri, decide (j ≤ i ∧ i < n + 1 ∧ ri.c ≠ m), 0, 0, 0, ""⟩ := by
        rw [← hfs]
        refine fin_get ?_
        rw [List.getElem?_set_ne (by walk_at "om"), List.getElem?_map, ei]; rfl
      exact ⟨_, _, F.less (le7.trans le8), oo₂, vs ++ [v], rfl, D₂, prd_take (prd_mono V fun _ _ i => i.mono le9) ef (dv.mono F.rebase.1), ⟨rfl, rfl, rfl, rfl, rfl, rfl, rfl, rfl, rfl, rfl, rfl, trivial⟩⟩
  · rintro G' N' l' h' hG F' ⟨oo', vs, rfl, D, V, hl⟩
    replace F' := F'.to _ hl
    refine F'.letK ?_
    clear F'
    intro l₁ F'
    rw [hw, ← hfl, List.take_length] at V
    exact k _ G' oo' vs hG D V F'
end
section
variable {fa : Addr} {cd : Value} {prog : Program} {w : World} {s : Shared} {A : Around} {h : Heap} {G : PH} {L : Addr} {N : List (Addr × Obj)} {l : List (Str × Value)} {o : Obj} {g : Obj → List (Addr × Obj)} {mg mb : Str → Option Value}
theorem sp_told {x : Addr} {f : Inf} {fs : List (Str × Value)} {Q : Value → Heap → Prop} (S : Stat (hd.heap_39 w.params) mg mb h.get?) (R : Rm A 2) (I : InstG h.get? x 175 fs) (hf : InfF f fs)
    (k : ∀ h', Le h.get? h'.get? → ∀ a t1 t2 t3 t4 t5 t6, h'.get? a = some { cls := .type "tuple", data := .seq [.int f.r.g t1, .int f.r.c t2, .int 0 t3, .int 0 t4, .int f.xo t5, .int f.yo t6].toArray } → Q (.ref a) h') : W prog w s A h (call (.ref 172) [.ref x]) Q := by
  obtain ⟨t0, t1, t2, t3, t4, t5, t6, t7, t8, t9, t10, t11, t12, t13, rfl⟩ := hf
  walk_at "enter"; intro L h₁ _ eE lL F
  repeat' walk_at "z"
  rename Fm _ _ _ _ _ => F
  exact k _ F.keep _ _ _ _ _ _ _ (F.get (.head _))
theorem law_d2 {ra : Addr} {way flag : Int} {tw tf : Tok} {tbl gd : Addr} {c1 c2 c3 c4 du b row : Addr} {oo : Obj} {vs us : List Value} {ns : List (Addr × Obj)} {fs : List Inf} {bw ll : Value} {Q : Flow → Heap → Prop}
    (F : Fm G L ((du, oo) :: N) h [("way", .int way tw), ("flag", .int flag tf), ("table", .ref tbl), ("gdef", .ref gd), ("rows", .ref ra), ("buffer", .ref b), ("due", .ref du)])
    (S : Stat (hd.heap_39 w.params) mg mb G) (R : Rm A 15) (B : InstG G b 221 [("row", .ref row), ("is_backward", bw), ("last_lig", ll)]) (V : LstG G row vs) (X : InfsAre G vs ns fs) (e : ∀ p ∈ ns, G p.1 = some p.2)
    (hfl : fs.length ≤ 7) (D : PL oo us) (P : Paired (DueV G) us fs) (hb : ∀ f ∈ fs, f.bo = "" ∨ f.bo = "mark")
    (k : ∀ h' G', Le G G' → Fm G' L N h' [("way", .int way tw), ("flag", .int flag tf), ("table", .ref tbl), ("gdef", .ref gd), ("rows", .ref ra)] → Q .next h') :
    W prog w s A h (execs (loopBody.drop 8) (lawEnv fa cd L c1 c2 c3 c4)) Q := by
  refine law_in F ?_
  clear F
  intro e₀ l₀ F
  change W _ _ _ _ _ (execs (Stmt.If _ _ _ _ :: _) _) _
  have hvl := X.len.1
  repeat' walk_at "z"
  refine w_comp rfl (by decide) rfl (by decide) rfl ?_
  repeat' walk_at "z"
  refine (src_list (by walk_at "hh") V F).mono ?_
  clear F
  rintro it h₃ ⟨le3, X3⟩
  refine ⟨G, _, _, _, _, _, fun i G' N' ys => N' = (du, oo) :: N ∧ Paired (DueV G') ys (fs.take i), X3, by rw [sizeLine_eq]; walk_at "om", ⟨rfl, .nil⟩, ?_, ?_⟩
  · rintro i v G' C H N' ys h' hi hv hG F' ⟨rfl, W₁⟩
    have hi' : i < fs.length := by walk_at "om"
    have ef : fs[i]? = some fs[i] := by simp [hi']
    generalize fs[i] = f at *
    obtain ⟨x₁, d₁, o₁, ev, en, ex, ed⟩ := X.get ef
    rw [hv] at ev; cases ev
    obtain ⟨gs, hf, I⟩ := DI.inst ex ed (e _ (List.mem_of_getElem? en))
    have hf' := hf
    obtain ⟨t0, t1, t2, t3, t4, t5, t6, t7, t8, t9, t10, t11, t12, t13, rfl⟩ := hf'
    replace I := I.mono hG
    replace S := S.mono hG
    repeat' walk_at "z"
    refine sp_told (by walk_at "st") (by walk_at "rm") (I.mono F'.keep) hf ?_
    intro h₄ le a u1 u2 u3 u4 u5 u6 ea
    have F := F'.keeps le
    clear F'
    repeat' walk_at "z"
    rename Fm _ _ _ _ _ => F
    rename Le _ _ => kz
    refine w_addTup F (kz _ _ ea) (F.get (.head _)) (by simp) (by simp) (by rw [sizeLine_eq]; simp) ?_
    intro ct h₅ F lec nc
    refine F.settleK ?_
    intro G2 le2 F e2
    replace F := F.drop
    refine ⟨_, _, F.less le2, rfl, prd_take (prd_mono W₁ fun _ _ i => i.mono (le2.trans F.rebase.1)) ef (due_of rfl (TupG.of (F.rebase.1 _ _ e2)))⟩
  · rintro G' Dl o' N' ys h' hG F' PD hz ⟨rfl, W₁⟩
    rw [hvl, List.take_length] at W₁
    refine F'.settleK ?_
    intro G2 le2 F e2
    refine F.settleK ?_
    intro G3 le3 F e3
    have le4 := hG.trans (le2.trans le3)
    repeat' walk_at "z"
    refine w_neDue (by walk_at "rm") (PD.lst e2) (le3.trans F.keep) (prd_mono W₁ fun _ _ i => i.mono le2) (D.lst e3) F.keep (prd_mono P fun _ _ i => i.mono le4) hb ?_
    repeat' walk_at "z"
    exact k _ G3 le4 (F.to _ ⟨rfl, rfl, rfl, rfl, rfl, trivial⟩)
local macro_rules | `(tactic| walk_at "zi") => `(tactic| ((fail_if_success (with_reducible show W _ _ _ _ _ (execs (Stmt.If _ _ _ _ :: _) _) _)); walk_at "z"))
theorem law_d {ra : Addr} {way flag : Int} {tw tf : Tok} {tbl gd : Addr} {c1 c2 c3 c4 du b row : Addr} {oo : Obj} {vs us : List Value} {ns : List (Addr × Obj)} {fs : List Inf} {n : Nat} {hv : Int} {gv bw ll : Value} {tn th : Tok} {Q : Flow → Heap → Prop}
    (F : Fm G L ((du, oo) :: N) h [("way", .int way tw), ("flag", .int flag tf), ("table", .ref tbl), ("gdef", .ref gd), ("rows", .ref ra), ("at", .int n tn), ("buffer", .ref b), ("heard", .int hv th), ("goal", gv), ("due", .ref du)])
    (S : Stat (hd.heap_39 w.params) mg mb G) (R : Rm A 15) (hg : (gv = .none ∧ hv = -1) ∨ ∃ x, gv = .ref x ∧ hv = n + 1) (B : InstG G b 221 [("row", .ref row), ("is_backward", bw), ("last_lig", ll)]) (V : LstG G row vs) (X : InfsAre G vs ns fs) (e : ∀ p ∈ ns, G p.1 = some p.2)
    (hfl : fs.length ≤ 7) (D : PL oo us) (P : Paired (DueV G) us fs) (hb : ∀ f ∈ fs, f.bo = "" ∨ f.bo = "mark")
    (k : ∀ h' G', Le G G' → Fm G' L N h' [("way", .int way tw), ("flag", .int flag tf), ("table", .ref tbl), ("gdef", .ref gd), ("rows", .ref ra)] → Q .next h') :
    W prog w s A h (execs (loopBody.drop 7) (lawEnv fa cd L c1 c2 c3 c4)) Q := by
  refine law_in F ?_
  clear F
  intro e₀ l₀ F
  change W _ _ _ _ _ (execs (Stmt.If _ _ _ _ :: _) _) _
  rcases hg with ⟨rfl, rfl⟩ | ⟨x, rfl, rfl⟩
  · refine w_if ?_
    repeat' walk_at "zi"
    exact law_d2 (c1 := c1) (c2 := c2) (c3 := c3) (c4 := c4) (F.to _ ⟨rfl, rfl, rfl, rfl, rfl, rfl, rfl, trivial⟩) S R B V X e hfl D P hb k
  · refine w_if ?_
    repeat' walk_at "zi"
    exact law_d2 (c1 := c1) (c2 := c2) (c3 := c3) (c4 := c4) (F.to _ ⟨rfl, rfl, rfl, rfl, rfl, rfl, rfl, trivial⟩) S R B V X e hfl D P hb k
end
theorem inf0_bo (rs : List Row) : ∀ f ∈ rs.map inf0, f.bo = "" ∨ f.bo = "mark" := by
  intro f hf
  obtain ⟨r, _, rfl⟩ := List.mem_map.mp hf
  exact .inl rfl
theorem set_bo {fs : List Inf} {n : Nat} {f' : Inf} (h : ∀ f ∈ fs, f.bo = "" ∨ f.bo = "mark") (h' : f'.bo = "mark") : ∀ f ∈ fs.set n f', f.bo = "" ∨ f.bo = "mark" := by
  intro f hf
  rcases List.mem_or_eq_of_mem_set hf with q | q
  · exact h f q
  · exact .inr (q ▸ h')
theorem hangF_bo {p e : Nat} {m : Int} {fs : List Inf} (h : ∀ f ∈ fs, f.bo = "" ∨ f.bo = "mark") : ∀ f ∈ hangF p e m fs, f.bo = "" ∨ f.bo = "mark" := by
  intro f hf
  obtain ⟨i, hi⟩ := List.getElem?_of_mem hf
  rw [hangF_get] at hi
  obtain ⟨f₀, e₀, rfl⟩ := Option.map_eq_some_iff.mp hi
  have := h f₀ (List.mem_of_getElem? e₀)
  split <;> exact this
theorem hangF_len {p e : Nat} {m : Int} {fs : List Inf} : (hangF p e m fs).length = fs.length := by simp [hangF]
section
variable {fa : Addr} {cd : Value} {prog : Program} {w : World} {s : Shared} {A : Around} {h : Heap} {G : PH} {L : Addr} {N : List (Addr × Obj)} {l : List (Str × Value)} {o : Obj} {g : Obj → List (Addr × Obj)} {mg mb : Str → Option Value}
theorem law_turn {c1 c2 c3 c4 ra tb gd ow md od : Addr} {M : Marks} {O : List (Int × List PRow)} {rs : List Row} {r : Row} {n : Nat} {way flag : Int} {tw tf tn : Tok} {Q : Flow → Heap → Prop}
    (F : Fm G L N h [("way", .int way tw), ("rows", .ref ra), ("flag", .int flag tf), ("table", .ref tb), ("gdef", .ref gd), ("at", .int n tn)])
    (S : Stat (hd.heap_39 w.params) mg mb G) (R : Rm A 20) (T : TblG G ra rs) (rk : ∀ r ∈ rs, ROk r) (r7 : rs.length ≤ 7) (hf : flag ∈ flags) (w0 : 0 ≤ way) (w1 : way < 3) (TW : TabW prog w G way tb ow O) (GD : GdefG prog w G gd) (MD : MapG OwnV prog w G ow M) (hS : Shp M O)
    (C2 : CellG G c2 (.ref md)) (MK : MapG MarkV prog w G md M) (C3 : CellG G c3 (.ref od)) (OG : MapG PartsV prog w G od O)
    (hO : way ≠ 1 → ∀ g ps, O.lookup g = some ps → ps.length = 1) (er : rs[n]? = some r)
    (k : ∀ h' G', Le G G' → Fm G' L N h' [("way", .int way tw), ("flag", .int flag tf), ("table", .ref tb), ("gdef", .ref gd), ("rows", .ref ra)] → Q .next h') :
    W prog w s A h (execs (loopBody.drop 0) (lawEnv fa cd L c1 c2 c3 c4)) Q := by
  refine law_in F ?_
  clear F
  intro e₀ l₀ F
  refine law_a F S R T rk r7 hf w0 w1 TW GD MD hS hO er ?_
  intro h₁ G₁ b row vs ns fs hv th bw ll le₁ B V X e oc F
  replace S := S.mono le₁
  replace T := T.mono le₁
  replace C2 := C2.mono le₁
  replace MK := MK.mono (fun _ _ x => x.mono le₁) le₁
  replace C3 := C3.mono le₁
  replace OG := OG.mono (fun _ _ x => x.mono le₁) le₁
  refine law_b F S R T r7 w0 w1 C2 MK C3 OG hS hO er ?_ ?_
  · intro hs h₂ G₂ du oo pi pt le₂ D F
    rw [hs] at oc
    obtain ⟨rfl, rfl⟩ := oc
    refine law_c0 F (S.mono le₂) (R.le (by decide)) (T.mono le₂) r7 D ?_
    intro h₃ G₃ oo' us le₃ D P F
    have le := le₂.trans le₃
    refine law_d (n := n) (F.to _ ⟨rfl, rfl, rfl, rfl, rfl, rfl, rfl, rfl, rfl, rfl, trivial⟩) (S.mono le) (R.le (by decide)) (.inl ⟨rfl, rfl⟩) (B.mono le) (V.mono le) (X.mono le) (fun p hp => le _ _ (e p hp)) (by rw [List.length_map]; exact r7) D P (inf0_bo rs) ?_
    intro h₄ G₄ le₄ F
    exact k h₄ G₄ (le₁.trans (le.trans le₄)) F
  · intro j c ox oy ax ay hs hm h₂ G₂ du oo x pt t1 t2 le₂ D TX F
    rw [hs] at oc
    obtain ⟨rfl, m, r', er', mn, rfl⟩ := oc
    rw [er] at er'; cases er'
    refine law_c1 F (S.mono le₂) (R.le (by decide)) (T.mono le₂) r7 D (C2.mono le₂) (MK.mono (fun _ _ x => x.mono le₂) le₂) TX er hm mn ?_
    intro h₃ G₃ oo' us le₃ D P F
    have le := le₂.trans le₃
    refine law_d (n := n) (F.to _ ⟨rfl, rfl, rfl, rfl, rfl, rfl, rfl, rfl, rfl, rfl, trivial⟩) (S.mono le) (R.le (by decide)) (.inr ⟨x, rfl, rfl⟩) (B.mono le) (V.mono le) (X.mono le) (fun p hp => le _ _ (e p hp)) (by rw [hangF_len, List.length_set, List.length_map]; exact r7) D P (hangF_bo (set_bo (inf0_bo rs) rfl)) ?_
    intro h₄ G₄ le₄ F
    exact k h₄ G₄ (le₁.trans (le.trans le₄)) F
theorem law_p6 {c1 c2 c3 c4 ra tb gd ow md od : Addr} {M : Marks} {O : List (Int × List PRow)} {rs : List Row} {way flag : Int} {tw tf : Tok} {Q : Flow → Heap → Prop}
    (F : Fm G L [] h [("way", .int way tw), ("rows", .ref ra), ("flag", .int flag tf), ("table", .ref tb), ("gdef", .ref gd)])
    (S : Stat (hd.heap_39 w.params) mg mb G) (R : Rm A 20) (T : TblG G ra rs) (rk : ∀ r ∈ rs, ROk r) (r7 : rs.length ≤ 7) (hf : flag ∈ flags) (w0 : 0 ≤ way) (w1 : way < 3) (TW : TabW prog w G way tb ow O) (GD : GdefG prog w G gd) (MD : MapG OwnV prog w G ow M) (hS : Shp M O)
    (C2 : CellG G c2 (.ref md)) (MK : MapG MarkV prog w G md M) (C3 : CellG G c3 (.ref od)) (OG : MapG PartsV prog w G od O)
    (hO : way ≠ 1 → ∀ g ps, O.lookup g = some ps → ps.length = 1)
    (k : ∀ h' G', Le G G' → Fm G' L [] h' [] → Q (.ret (.bool true)) h') :
    W prog w s A h (execs (lawBody.drop 12) (lawEnv fa cd L c1 c2 c3 c4)) Q := by
  refine law_in F ?_
  clear F
  intro e₀ l₀ F
  change W _ _ _ _ _ (execs (Stmt.For _ _ _ _ _ :: _) _) _
  have T' := T
  obtain ⟨ws, Lw, Vw⟩ := T'
  have hw := Vw.length
  refine w_forRange ?_
  repeat' walk_at "z"
  refine w_range1 ?_
  walk_at "back"
  intro r' hr
  rename Fm _ _ _ _ _ => F
  refine ⟨r', 0, _, 1, ws.length, G, L, _, _, fun i G' N' l' => N' = [] ∧ Has (al l') [("way", .int way tw), ("rows", .ref ra), ("flag", .int flag tf), ("table", .ref tb), ("gdef", .ref gd)],
    rfl, by walk_at "hh", hr, rng_small (by walk_at "om"), rng_size (by walk_at "om"), F, ⟨rfl, ⟨rfl, rfl, rfl, rfl, rfl, trivial⟩⟩, ?_, ?_⟩
  · rintro i v G' H N' l' h' hi ⟨u, rfl⟩ hG F' ⟨rfl, hl⟩
    replace F' := F'.to _ hl
    refine F'.letK ?_
    clear F'
    intro l₁ F'
    rw [show (0 : Int) + (i : Int) * 1 = i by walk_at "om"]
    have hi' : i < rs.length := by walk_at "om"
    refine w_asgName ?_
    refine w_store F' ?_
    intro h₁ F
    refine law_turn (c1 := c1) (c2 := c2) (c3 := c3) (c4 := c4) (F.to _ ⟨rfl, rfl, rfl, rfl, rfl, rfl, trivial⟩) (S.mono hG) R (T.mono hG) rk r7 hf w0 w1 (TW.mono hG) (GD.mono hG) (MD.mono (fun _ _ x => x.mono hG) hG) hS (C2.mono hG) (MK.mono (fun _ _ x => x.mono hG) hG) (C3.mono hG) (OG.mono (fun _ _ x => x.mono hG) hG) hO (r := rs[i]) (by simp [hi']) ?_
    intro h₂ G₂ le₂ F
    exact ⟨_, _, F.less le₂, rfl, ⟨rfl, rfl, rfl, rfl, rfl, trivial⟩⟩
  · rintro G' N' l' h' hG F' ⟨rfl, hl⟩
    replace F' := F'.to _ hl
    refine F'.letK ?_
    clear F'
    intro l₁ F'
    repeat' walk_at "z"
    exact k _ G' hG (F'.to _ trivial)
end
theorem shp_of {M : Marks} {O : List (Int × List PRow)} {way : Int} (h1 : ∀ x ∈ M, x.2.1 = 0 ∨ x.2.1 = 1) (h2 : ∀ x ∈ O, (way ≠ 1 → x.2.length = 1) ∧ x.2.length ≤ 3 ∧ ∀ row ∈ x.2, row.length = 2) : Shp M O :=
  ⟨fun g c x y e => h1 _ (lookup_mem e), fun g ps e => (h2 _ (lookup_mem e)).2.2, fun g ps e => by have := (h2 _ (lookup_mem e)).2.1; dsimp only at this; omega⟩
section
variable {fa : Addr} {cd : Value} {prog : Program} {w : World} {s : Shared} {A : Around} {h : Heap} {G : PH} {L : Addr} {mg mb : Str → Option Value}
theorem law_all {a c1 c2 c3 c4 : Addr} {o1 o2 o3 o4 : Obj} {vs : List Value} {ns : List Int} {Q : Flow → Heap → Prop} (F : Fm G L [(c1, o1), (c2, o2), (c3, o3), (c4, o4)] h [("script", .ref a)]) (d1 : o1.data = .cell none) (d2 : o2.data = .cell none) (d3 : o3.data = .cell none) (d4 : o4.data = .cell none)
    (S : Stat (hd.heap_39 w.params) mg mb G) (R : Rm A 20) (I : LstG G a vs) (hi : IntsAre vs ns) (hn : vs.length ≤ 100)
    (k : ∀ h' G', Le G G' → Fm G' L [] h' [] → Q (.ret (.bool true)) h') : W prog w s A h (execs lawBody (lawEnv fa cd L c1 c2 c3 c4)) Q := by
  refine law_p0 F d1 d2 S R I hi hn ?_
  intro h₁ G₁ p o c way tw ra rs flag tf md dm le₁ C1 C2 C P w0 w1 T rk r0 r7 hf Dm lo F
  have S₁ := S.mono le₁
  refine law_p1 F S₁ R C1 C2 C P Dm lo ?_
  intro h₂ G₂ o₂ M le₂ P MK hM hc F
  have S₂ := S₁.mono le₂
  refine law_p2 F d3 S₂ R (C1.mono le₂) (C.mono le₂) P w0 w1 ?_
  intro h₃ G₃ od O le₃ C3 OG hO hcO F
  have S₃ := S₂.mono le₃
  have le₂₃ := le₂.trans le₃
  have MK₃ := MK.mono (fun _ _ x => x.mono le₃) le₃
  refine law_p3a F S₃ R (C2.mono le₂₃) MK₃ hM ?_
  intro h₄ G₄ ow le₄ OW F
  have S₄ := S₃.mono le₄
  have OG₄ := OG.mono (fun _ _ x => x.mono le₄) le₄
  refine law_p3b F d4 S₄ R (C3.mono le₄) OG₄ hO hcO ?_
  intro h₅ G₅ hl le₅ HG C4 F
  have S₅ := S₄.mono le₅
  refine law_p4 F S₅ R C4 HG hO hcO w0 w1 ?_
  intro h₆ G₆ tb le₆ TW F
  have S₆ := S₅.mono le₆
  refine law_p5 F S₆ R ?_
  intro h₇ G₇ gd le₇ GD F
  have le₅₇ := le₅.trans (le₆.trans le₇)
  have le₄₇ := le₄.trans le₅₇
  refine law_p6 F (S₆.mono le₇) R (T.mono (le₂₃.trans le₄₇)) rk r7 hf w0 w1 (TW.mono le₇) GD (OW.mono (fun _ _ x => x.mono le₅₇) le₅₇) (shp_of hc hcO) (C2.mono (le₂₃.trans le₄₇)) (MK₃.mono (fun _ _ x => x.mono le₄₇) le₄₇) (C3.mono le₄₇) (OG.mono (fun _ _ x => x.mono le₄₇) le₄₇)
    (fun hw g ps e => (hcO _ (lookup_mem e)).1 hw) ?_
  intro h₈ G₈ le₈ F
  exact k h₈ G₈ (le₁.trans (le₂₃.trans (le₄₇.trans le₈))) F
theorem entry {tk : Nat} {a c1 c2 c3 c4 : Addr} {o1 o2 o3 o4 : Obj} {m : Str → Option Value} {vs : List Value} {ns : List Int} {q : Program} {loose : List Str} {mean : ExcName → Option Value} {Q : Flow → Shared → Prop} {E : Value → Shared → Prop}
    (T : Top q loose mean mg mb s.heap) (KX : (hd.heap_39 w.params).In s.heap) (F0 : Fr s.heap L h m) (N0 : News s.heap L h [(c4, o4), (c3, o3), (c2, o2), (c1, o1)]) (hm : m "script" = some (.ref a)) (d1 : o1.data = .cell none) (d2 : o2.data = .cell none) (d3 : o3.data = .cell none) (d4 : o4.data = .cell none)
    (nd : [c1, c2, c3, c4].Nodup) (hL : s.heap.IsList a vs.toArray) (hI : IntsAre vs ns) (hn : ns.length ≤ 63) (R : Rm A 20)
    (hQ : ∀ h' tk', Le s.heap.get? h'.get? → Q (.ret (.bool true)) { s with heap := h', toks := tk' }) :
    wpAny (model prog w) A (execs lawBody (lawEnv fa cd L c1 c2 c3 c4)) Q E { s with heap := h, toks := tk } := by
  have off : s.heap.get? L = none := by
    cases e : s.heap.get? L with
    | none => rfl
    | some o => exact absurd (Heap.lt_size e) (Nat.not_lt.mpr F0.above)
  have F : Fm s.heap.get? L [(c1, o1), (c2, o2), (c3, o3), (c4, o4)] h [("script", .ref a)] := by
    refine ⟨⟨m, F0.ns, fun y v e => ?_⟩, F0.keep, off, fun p hp => ?_, nd⟩
    · exact Has.get (m := m) (l := [("script", .ref a)]) ⟨hm, trivial⟩ e
    · have z := N0 p (by simp only [List.mem_cons, List.not_mem_nil, or_false] at hp ⊢; rcases hp with q | q | q | q <;> simp [q])
      exact ⟨z.1, z.2.2, z.2.1⟩
  have S : Stat (hd.heap_39 w.params) mg mb s.heap.get? := ⟨s.heap, ⟨KX, T.g, T.b, T.nolimit, T.builtins⟩, Le.refl _⟩
  have key := law_all (fa := fa) (cd := cd) (prog := prog) (w := w) (s := s) (Q := fun f h' => f = .ret (.bool true) ∧ Le s.heap.get? h'.get?) F d1 d2 d3 d4 S R hL hI (by rw [ints_len hI]; omega) (fun h' G' le F => ⟨rfl, le.trans F.keep⟩)
  refine wpAny_mono (key.out tk) ?_ fun _ _ e => e.elim
  rintro v s' ⟨h', tk', e, hv, le⟩
  subst e
  subst hv
  exact hQ h' tk' le
end
theorem in_same {K K' : Params → Frag} {w : World} {h : Heap} (e : K' = K) (X : (K w.params).In h) : (K' w.params).In h := by subst e; exact X
noncomputable def holds.tw17274456146704370614 : Unit := ()
noncomputable def holds.tw9157471666820141079 : Unit := ()
noncomputable def holds.tw11750193621415288269 : Unit := ()
noncomputable def holds.tw5619803957841784048 : Unit := ()
noncomputable def holds.tw1552857426587298226 : Unit := ()
noncomputable def holds.tw5471403574791894133 : Unit := ()
noncomputable def holds.tw12306811582311103309 : Unit := ()
noncomputable def holds.tw10269081998898121243 : Unit := ()
noncomputable def holds.tw1464585029459963409 : Unit := ()
noncomputable def holds.tw5274829272982666545 : Unit := ()
noncomputable def holds.tw12563481999192008768 : Unit := ()
noncomputable def holds.tw10698829266838348154 : Unit := ()
noncomputable def holds.tw18224010420261798391 : Unit := ()
noncomputable def holds.tw9370115536473471133 : Unit := ()
noncomputable def holds.tw1692041494862269998 : Unit := ()
noncomputable def holds.tw5259053182002985842 : Unit := ()
noncomputable def holds.tw16532224993992427823 : Unit := ()
noncomputable def holds.tw2207817973478938216 : Unit := ()
noncomputable def holds.tw10294072060680161967 : Unit := ()
noncomputable def holds.tw9784731065822230439 : Unit := ()
noncomputable def holds.tw15814798929938293467 : Unit := ()
noncomputable def holds.tw12947342387834907416 : Unit := ()
noncomputable def holds.tw14314133134477209284 : Unit := ()
noncomputable def holds.tw3811385743445658432 : Unit := ()
noncomputable def holds.tw17417429595627488627 : Unit := ()
noncomputable def holds.tw17714467908841036005 : Unit := ()
noncomputable def holds.tw11450275943994455990 : Unit := ()
noncomputable def holds.tw7366336091430424897 : Unit := ()
noncomputable def holds.tw9114018109745100730 : Unit := ()
noncomputable def holds.tw1213666046027356511 : Unit := ()
noncomputable def holds.tw9232459349045140238 : Unit := ()
noncomputable def holds.tw8105830805119860317 : Unit := ()
noncomputable def holds.tw13945929957867325323 : Unit := ()
noncomputable def holds.tw4327840331488684936 : Unit := ()
noncomputable def holds.tw16898140867199733807 : Unit := ()
noncomputable def holds.tw14977296931134136204 : Unit := ()
noncomputable def holds.tw18173914834931495973 : Unit := ()
noncomputable def holds.tw1876284267304334591 : Unit := ()
noncomputable def holds.tw2976685253332725484 : Unit := ()
noncomputable def holds.tw16124510186991490168 : Unit := ()
noncomputable def holds.tw10274680400919065884 : Unit := ()
noncomputable def holds.tw7389893730484166007 : Unit := ()
noncomputable def holds.tw154871700347349385 : Unit := ()
noncomputable def holds.tw15462992800728643659 : Unit := ()
noncomputable def holds.tw8403075241119356948 : Unit := ()
noncomputable def holds.tw5031978486770369989 : Unit := ()
noncomputable def holds.tw8778671856527934898 : Unit := ()
noncomputable def holds.tw10843207457187830352 : Unit := ()
noncomputable def holds.tw5015485144833937494 : Unit := ()
noncomputable def holds.tw3834328006691320696 : Unit := ()
noncomputable def holds.tw6216033271563703469 : Unit := ()
noncomputable def holds.tw6460966521098074893 : Unit := ()
noncomputable def holds.tw1211747854080251252 : Unit := ()
noncomputable def holds.tw17129278960223170533 : Unit := ()
noncomputable def holds.tw7923702915469573346 : Unit := ()
noncomputable def holds.tw14545006242359850397 : Unit := ()
noncomputable def holds.tw7548614866355832645 : Unit := ()
noncomputable def holds.tw1906216828905148153 : Unit := ()
noncomputable def holds.tw7794074229983474189 : Unit := ()
noncomputable def holds.tw18078616723997116376 : Unit := ()
noncomputable def holds.tw13384883100587833847 : Unit := ()
noncomputable def holds.tw5252246860307943348 : Unit := ()
noncomputable def holds.tw8664812251140827045 : Unit := ()
noncomputable def holds.tw13757568721421367004 : Unit := ()
noncomputable def holds.tw4949047195023096438 : Unit := ()
noncomputable def holds.tw7795792425630101459 : Unit := ()
noncomputable def holds.tw8583004682187828996 : Unit := ()
noncomputable def holds.tw7442186320969616419 : Unit := ()
noncomputable def holds.tw9816476011544392670 : Unit := ()
noncomputable def holds.tw13200177327426563521 : Unit := ()
noncomputable def holds.tw17453241218497372113 : Unit := ()
noncomputable def holds.tw15659084048362614264 : Unit := ()
noncomputable def holds.tw5599412692616142259 : Unit := ()
noncomputable def holds.tw6545324650690627985 : Unit := ()
noncomputable def holds.tw12160635655254385198 : Unit := ()
noncomputable def holds.tw10587580826675096554 : Unit := ()
noncomputable def holds.tw5225467491883748592 : Unit := ()
noncomputable def holds.tw11822188140940861840 : Unit := ()
noncomputable def holds.tw8143335708233088440 : Unit := ()
noncomputable def holds.tw6330134614895140133 : Unit := ()
noncomputable def holds.tw10520202591518659360 : Unit := ()
noncomputable def holds.tw16141144775947785660 : Unit := ()
noncomputable def holds.tw949623864930693503 : Unit := ()
noncomputable def holds.tw8070350036930755802 : Unit := ()
noncomputable def holds.tw11647182259668861994 : Unit := ()
noncomputable def holds.tw7129523546110730894 : Unit := ()
noncomputable def holds.tw3101148707280403237 : Unit := ()
noncomputable def holds.tw6307330118970589470 : Unit := ()
noncomputable def holds.tw7350330377624401328 : Unit := ()
noncomputable def holds.tw15942494369296127945 : Unit := ()
noncomputable def holds.tw17679881989231487338 : Unit := ()
noncomputable def holds.tw18193256452927958525 : Unit := ()
noncomputable def holds.tw3522650409621224377 : Unit := ()
noncomputable def holds.tw7399101569421298396 : Unit := ()
noncomputable def holds.tw14453804969608289915 : Unit := ()
noncomputable def holds.tw1349225773494744244 : Unit := ()
noncomputable def holds.tw10675174832548182787 : Unit := ()
noncomputable def holds.tw18020473825885896052 : Unit := ()
noncomputable def holds.tw2406459529592591507 : Unit := ()
noncomputable def holds.tw2490583276235294983 : Unit := ()
noncomputable def holds.tw9930548314228155742 : Unit := ()
noncomputable def holds.tw8789113547377566482 : Unit := ()
noncomputable def holds.tw16023326469892898016 : Unit := ()
noncomputable def holds.tw12158838097934144204 : Unit := ()
noncomputable def holds.tw14054693376921006050 : Unit := ()
noncomputable def holds.tw8035951141280138642 : Unit := ()
noncomputable def holds.tw13222035019132090745 : Unit := ()
noncomputable def holds.tw7154447938429058438 : Unit := ()
noncomputable def holds.tw8844102623358338796 : Unit := ()
noncomputable def holds.tw13758948915013449397 : Unit := ()
noncomputable def holds.tw6674158366018852832 : Unit := ()
noncomputable def holds.tw8087799500789234286 : Unit := ()
noncomputable def holds.tw17096001632197288867 : Unit := ()
noncomputable def holds.tw5887078386916838634 : Unit := ()
noncomputable def holds.tw7942442253511216057 : Unit := ()
noncomputable def holds.tw13373784697917265674 : Unit := ()
noncomputable def holds.tw6424660084863691381 : Unit := ()
noncomputable def holds.tw2980642449514264586 : Unit := ()
noncomputable def holds.tw4399152324972305773 : Unit := ()
noncomputable def holds.tw15477653585598255317 : Unit := ()
noncomputable def holds.tw4021013208564600997 : Unit := ()
noncomputable def holds.tw11723004889028688699 : Unit := ()
noncomputable def holds.tw15402825562841796884 : Unit := ()
noncomputable def holds.tw11569915684508697678 : Unit := ()
noncomputable def holds.tw11040456503202229835 : Unit := ()
noncomputable def holds.tw10981351503976158137 : Unit := ()
noncomputable def holds.tw14012497318314112844 : Unit := ()
noncomputable def holds.tw6099975724469302500 : Unit := ()
noncomputable def holds.tw11284957654470035344 : Unit := ()
noncomputable def holds.tw576298715544257586 : Unit := ()
noncomputable def holds.tw16035096773351161327 : Unit := ()
noncomputable def holds.tw5078402968320093544 : Unit := ()
noncomputable def holds.tw4702539438339769474 : Unit := ()
noncomputable def holds.tw15203487316939043196 : Unit := ()
noncomputable def holds.tw12929723366055764138 : Unit := ()
noncomputable def holds.tw13281364814482169325 : Unit := ()
noncomputable def holds.tw8451429660923938374 : Unit := ()
noncomputable def holds.tw5763553328388235881 : Unit := ()
noncomputable def holds.tw11775407622660791982 : Unit := ()
noncomputable def holds.tw3256209041318659551 : Unit := ()
noncomputable def holds.tw12733908048491186811 : Unit := ()
noncomputable def holds.tw2615367622897502577 : Unit := ()
noncomputable def holds.tw11111472982789046935 : Unit := ()
noncomputable def holds.tw2642592217982111355 : Unit := ()
noncomputable def holds.tw2667925813562934949 : Unit := ()
noncomputable def holds.tw9188266559522036927 : Unit := ()
noncomputable def holds.tw5990180441110522300 : Unit := ()
noncomputable def holds.tw11223116819087169764 : Unit := ()
noncomputable def holds.tw17779774989671706653 : Unit := ()
noncomputable def holds.tw3906943341852370832 : Unit := ()
noncomputable def holds.tw2929439407932294337 : Unit := ()
noncomputable def holds.tw9259533211598610082 : Unit := ()
noncomputable def holds.tw8277820557490507997 : Unit := ()
noncomputable def holds.tw11818566221774970091 : Unit := ()
noncomputable def holds.tw6118206324766035986 : Unit := ()
noncomputable def holds.tw12004910477815969792 : Unit := ()
noncomputable def holds.tw12788872388335264594 : Unit := ()
noncomputable def holds.tw4583756282420477746 : Unit := ()
noncomputable def holds.tw2041457743892144894 : Unit := ()
noncomputable def holds.tw14085268106739128817 : Unit := ()
noncomputable def holds.tw13341946137322399123 : Unit := ()
noncomputable def holds.tw13370180491053348 : Unit := ()
noncomputable def holds.tw2963349702327202441 : Unit := ()
noncomputable def holds.tw2084331650109322480 : Unit := ()
noncomputable def holds.tw5016061194280584464 : Unit := ()
noncomputable def holds.tw16955119412671694080 : Unit := ()
noncomputable def holds.tw16760418933842767799 : Unit := ()
noncomputable def holds.tw14387954076880322906 : Unit := ()
noncomputable def holds.tw10447927361281507451 : Unit := ()
noncomputable def holds.tw14786868411472786527 : Unit := ()
noncomputable def holds.tw2946744036017948005 : Unit := ()
noncomputable def holds.tw2972900019843275892 : Unit := ()
noncomputable def holds.tw7943873644019274615 : Unit := ()
noncomputable def holds.tw14607219995997415800 : Unit := ()
noncomputable def holds.tw8351548024695214574 : Unit := ()
noncomputable def holds.tw11037822914523747621 : Unit := ()
noncomputable def holds.tw2160012875989923789 : Unit := ()
noncomputable def holds.tw5112738896828158680 : Unit := ()
noncomputable def holds.tw18148179280279774915 : Unit := ()
noncomputable def holds.tw14205006904943715905 : Unit := ()
noncomputable def holds.tw12632932662738783937 : Unit := ()
noncomputable def holds.tw5923573193019433623 : Unit := ()
noncomputable def holds.tw251209375202695290 : Unit := ()
noncomputable def holds.tw1382383790286775375 : Unit := ()
noncomputable def holds.tw12084871131945615253 : Unit := ()
noncomputable def holds.tw15421342739227911939 : Unit := ()
noncomputable def holds.tw15305512045591798990 : Unit := ()
noncomputable def holds.tw1621136399060944247 : Unit := ()
noncomputable def holds.tw10645105620128953169 : Unit := ()
noncomputable def holds.tw14062913937729191461 : Unit := ()
noncomputable def holds.tw6166532556598395850 : Unit := ()
noncomputable def holds.tw14786066558164337950 : Unit := ()
noncomputable def holds.tw15136828946037461428 : Unit := ()
noncomputable def holds.tw13895526781322697374 : Unit := ()
noncomputable def holds.tw15043986215568586124 : Unit := ()
noncomputable def holds.tw1882270145967814011 : Unit := ()
noncomputable def holds.tw4876135695594978501 : Unit := ()
noncomputable def holds.tw7033360832409044607 : Unit := ()
noncomputable def holds.tw14375228850674640113 : Unit := ()
noncomputable def holds.tw18263738317455877889 : Unit := ()
noncomputable def holds.tw17027350548333183925 : Unit := ()
noncomputable def holds.tw15815842588268232306 : Unit := ()
noncomputable def holds.tw13356387430892511905 : Unit := ()
noncomputable def holds.tw10824115321126796680 : Unit := ()
noncomputable def holds.tw9523873602847724419 : Unit := ()
noncomputable def holds.tw17510143785770761814 : Unit := ()
noncomputable def holds.tw14149781006570564392 : Unit := ()
noncomputable def holds.tw5565848844497943877 : Unit := ()
noncomputable def holds.tw14691085348537605332 : Unit := ()
noncomputable def holds.tw3579776383272448420 : Unit := ()
noncomputable def holds.tw15228004617427520810 : Unit := ()
noncomputable def holds.tw17500814259130102135 : Unit := ()
noncomputable def holds.tw6357344898813262543 : Unit := ()
noncomputable def holds.tw15785218014132313688 : Unit := ()
noncomputable def holds.tw18145382148040430673 : Unit := ()
noncomputable def holds.tw8801499457356032720 : Unit := ()
noncomputable def holds.tw12039203186867382747 : Unit := ()
noncomputable def holds.tw13934561362821362623 : Unit := ()
noncomputable def holds.tw10491065262344570346 : Unit := ()
noncomputable def holds.tw9766128667603022514 : Unit := ()
noncomputable def holds.tw16451975095625300501 : Unit := ()
noncomputable def holds.tw13334661261001831826 : Unit := ()
noncomputable def holds.tw1272921112123746405 : Unit := ()
noncomputable def holds.tw12808162357026388105 : Unit := ()
noncomputable def holds.tw16740147826971877517 : Unit := ()
noncomputable def holds.tw2448847960820234738 : Unit := ()
noncomputable def holds.tw10061326939861387809 : Unit := ()
noncomputable def holds.tw4480811336153992742 : Unit := ()
noncomputable def holds.tw9732041140710341944 : Unit := ()
noncomputable def holds.tw9143120035062812437 : Unit := ()
noncomputable def holds.tw96072713605637463 : Unit := ()
noncomputable def holds.tw11992668283745064307 : Unit := ()
noncomputable def holds.tw16179787414501680475 : Unit := ()
noncomputable def holds.tw15493915963290111440 : Unit := ()
noncomputable def holds.tw3626213265524300766 : Unit := ()
noncomputable def holds.tw7944191787301449481 : Unit := ()
noncomputable def holds.tw15987345220168432620 : Unit := ()
noncomputable def holds.tw12468101337765408714 : Unit := ()
noncomputable def holds.tw8217837808669207805 : Unit := ()
noncomputable def holds.tw8868445881999480663 : Unit := ()
noncomputable def holds.tw13002855754428957212 : Unit := ()
noncomputable def holds.tw4046193847619289583 : Unit := ()
noncomputable def holds.tw1068646183558058351 : Unit := ()
noncomputable def holds.tw1833173380454153921 : Unit := ()
noncomputable def holds.tw5020977762268055686 : Unit := ()
noncomputable def holds.tw18348608232412713582 : Unit := ()
noncomputable def holds.tw17856180979147524769 : Unit := ()
noncomputable def holds.tw820627826665183454 : Unit := ()
noncomputable def holds.tw9486143321106344294 : Unit := ()
noncomputable def holds.tw6848487089051665640 : Unit := ()
noncomputable def holds.tw707885073954110949 : Unit := ()
noncomputable def holds.tw18401423562622610982 : Unit := ()
noncomputable def holds.tw4717937361131159733 : Unit := ()
noncomputable def holds.tw10853043219271619230 : Unit := ()
noncomputable def holds.tw10240100896771907615 : Unit := ()
noncomputable def holds.tw8086972369959518483 : Unit := ()
noncomputable def holds.tw669952608288141341 : Unit := ()
noncomputable def holds.tw17597196502641442581 : Unit := ()
noncomputable def holds.tw7688646387024053547 : Unit := ()
noncomputable def holds.tw7991519602905016326 : Unit := ()
noncomputable def holds.tw3914980098763439061 : Unit := ()
noncomputable def holds.tw1092734292537931370 : Unit := ()
noncomputable def holds.tw15654153127513851752 : Unit := ()
noncomputable def holds.tw17144610094948777349 : Unit := ()
noncomputable def holds.tw11322816463052944642 : Unit := ()
noncomputable def holds.tw16239030619513480838 : Unit := ()
noncomputable def holds.tw63030109126827207 : Unit := ()
noncomputable def holds.tw244668840739839672 : Unit := ()
noncomputable def holds.tw11021402016762074336 : Unit := ()
noncomputable def holds.tw15027879205694222834 : Unit := ()
noncomputable def holds.tw5948040445239067262 : Unit := ()
noncomputable def holds.tw1357463484097335404 : Unit := ()
noncomputable def holds.tw15750308709622187472 : Unit := ()
noncomputable def holds.tw4132201380793018340 : Unit := ()
noncomputable def holds.tw3232270311777372273 : Unit := ()
noncomputable def holds.tw8413133151647880539 : Unit := ()
noncomputable def holds.tw4636335402390110268 : Unit := ()
noncomputable def holds.tw9160814584890018001 : Unit := ()
noncomputable def holds.tw3864012138097595758 : Unit := ()
noncomputable def holds.tw8087273147054526846 : Unit := ()
noncomputable def holds.tw13752858599667678536 : Unit := ()
noncomputable def holds.tw8903297777125119442 : Unit := ()
noncomputable def holds.tw10894570999934473159 : Unit := ()
noncomputable def holds.tw1311399786705062619 : Unit := ()
noncomputable def holds.tw4698078265318845332 : Unit := ()
noncomputable def holds.tw14247145606103189434 : Unit := ()
noncomputable def holds.tw1357696155403014326 : Unit := ()
noncomputable def holds.tw5099458221760260784 : Unit := ()
noncomputable def holds.tw5295917329084666069 : Unit := ()
noncomputable def holds.tw14145908162538725807 : Unit := ()
noncomputable def holds.tw8944343764007091065 : Unit := ()
noncomputable def holds.tw14083959995102712966 : Unit := ()
noncomputable def holds.tw9039863090174473464 : Unit := ()
noncomputable def holds.tw13338651292558784369 : Unit := ()
noncomputable def holds.tw10953125311028157021 : Unit := ()
noncomputable def holds.tw8260078842695283502 : Unit := ()
noncomputable def holds.tw16796854770986717008 : Unit := ()
noncomputable def holds.tw15573729904360925794 : Unit := ()
noncomputable def holds.tw2156681307112010326 : Unit := ()
noncomputable def holds.tw6159885450047824267 : Unit := ()
noncomputable def holds.tw3521771025164786240 : Unit := ()
noncomputable def holds.tw11619669790576578751 : Unit := ()
noncomputable def holds.tw3529921767576855348 : Unit := ()
noncomputable def holds.tw960582308587345451 : Unit := ()
noncomputable def holds.tw5981487413272766262 : Unit := ()
noncomputable def holds.tw15773771547523477324 : Unit := ()
noncomputable def holds.tw759334954848157859 : Unit := ()
noncomputable def holds.tw17765825090018352961 : Unit := ()
noncomputable def holds.tw143733397751180983 : Unit := ()
noncomputable def holds.tw8324913547053779211 : Unit := ()
noncomputable def holds.tw9309047703646887916 : Unit := ()
noncomputable def holds.tw6234259597661685125 : Unit := ()
noncomputable def holds.tw16139409775219458943 : Unit := ()
noncomputable def holds.tw10238092577321643331 : Unit := ()
noncomputable def holds.tw4753448620645791293 : Unit := ()
noncomputable def holds.tw14642846902033847964 : Unit := ()
noncomputable def holds.tw14263331781698699780 : Unit := ()
noncomputable def holds.tw14394845925615563878 : Unit := ()
noncomputable def holds.tw8575535491628544125 : Unit := ()
noncomputable def holds.tw2661161477798328453 : Unit := ()
noncomputable def holds.tw17554650087636827874 : Unit := ()
noncomputable def holds.tw1446027475299390936 : Unit := ()
noncomputable def holds.tw5932082505621288647 : Unit := ()
noncomputable def holds.tw2781561513384061212 : Unit := ()
noncomputable def holds.tw12540800736699631050 : Unit := ()
noncomputable def holds.tw17094759248423572775 : Unit := ()
noncomputable def holds.tw7753079526450916859 : Unit := ()
noncomputable def holds.tw17642598502550569490 : Unit := ()
noncomputable def holds.tw8868040359437915812 : Unit := ()
noncomputable def holds.tw4500180452004054980 : Unit := ()
noncomputable def holds.tw10634055019105834221 : Unit := ()
noncomputable def holds.tw15969937429085165904 : Unit := ()
noncomputable def holds.tw18202751451028033538 : Unit := ()
noncomputable def holds.tw4051211075385915738 : Unit := ()
noncomputable def holds.tw10576265454180977796 : Unit := ()
noncomputable def holds.tw12135579543755162760 : Unit := ()
noncomputable def holds.tw12528141070781557109 : Unit := ()
noncomputable def holds.tw1316056555746827224 : Unit := ()
noncomputable def holds.tw341249449185904685 : Unit := ()
noncomputable def holds.tw3083665863380995925 : Unit := ()
noncomputable def holds.tw13602253286356535353 : Unit := ()
noncomputable def holds.tw7074641181814816541 : Unit := ()
noncomputable def holds.tw8006095370074002437 : Unit := ()
noncomputable def holds.tw5006882278849481289 : Unit := ()
noncomputable def holds.tw2422663375537807432 : Unit := ()
noncomputable def holds.tw3339025504875072537 : Unit := ()
noncomputable def holds.tw13130249910395747862 : Unit := ()
noncomputable def holds.tw10280545108713110612 : Unit := ()
noncomputable def holds.tw14432740918813763817 : Unit := ()
noncomputable def holds.tw11899092608841805274 : Unit := ()
noncomputable def holds.tw10595842591828190984 : Unit := ()
noncomputable def holds.tw1466284255255076664 : Unit := ()
noncomputable def holds.tw5588498093969417903 : Unit := ()
noncomputable def holds.tw4043779546988386903 : Unit := ()
noncomputable def holds.tw7840918076549728228 : Unit := ()
noncomputable def holds.tw17533166617710000329 : Unit := ()
noncomputable def holds.tw11210861575573996130 : Unit := ()
noncomputable def holds.tw15383290158734973844 : Unit := ()
noncomputable def holds.tw10684964147190113176 : Unit := ()
noncomputable def holds.tw1389151227800987198 : Unit := ()
noncomputable def holds.tw2562329033357795767 : Unit := ()
noncomputable def holds.tw6654929391614583909 : Unit := ()
noncomputable def holds.tw8421642452667620107 : Unit := ()
noncomputable def holds.tw4529002996912422141 : Unit := ()
noncomputable def holds.tw16569799976186059295 : Unit := ()
noncomputable def holds.tw15349486494167490861 : Unit := ()
noncomputable def holds.tw15500870510125222271 : Unit := ()
noncomputable def holds.tw17629714610472425511 : Unit := ()
noncomputable def holds.tw2720468260678641542 : Unit := ()
noncomputable def holds.tw12870647732520690006 : Unit := ()
noncomputable def holds.tw5635654813233479639 : Unit := ()
noncomputable def holds.tw2296293446034493066 : Unit := ()
noncomputable def holds.tw4921510776622977656 : Unit := ()
noncomputable def holds.tw2395783193375807797 : Unit := ()
noncomputable def holds.tw1438057683635843531 : Unit := ()
noncomputable def holds.tw8253004272172430988 : Unit := ()
noncomputable def holds.tw3081346186701454755 : Unit := ()
noncomputable def holds.tw13108245259352980691 : Unit := ()
noncomputable def holds.tw13564983018704479910 : Unit := ()
noncomputable def holds.tw303617358959260456 : Unit := ()
noncomputable def holds.tw150268843892594924 : Unit := ()
noncomputable def holds.tw8827755016177155863 : Unit := ()
noncomputable def holds.tw5768289875352899849 : Unit := ()
noncomputable def holds.tw3969078344035082030 : Unit := ()
noncomputable def holds.tw4659233104850659043 : Unit := ()
noncomputable def holds.tw6278366128872770721 : Unit := ()
noncomputable def holds.tw7580357766596436714 : Unit := ()
noncomputable def holds.tw4408763645494598628 : Unit := ()
noncomputable def holds.tw13416111870119765123 : Unit := ()
noncomputable def holds.tw16281141667863336784 : Unit := ()
noncomputable def holds.tw14341210406198164329 : Unit := ()
noncomputable def holds.tw3937861406571306486 : Unit := ()
noncomputable def holds.tw7398177500901678427 : Unit := ()
noncomputable def holds.tw16461013251600362008 : Unit := ()
noncomputable def holds.tw8454650750101055009 : Unit := ()
noncomputable def holds.tw9855210162650666830 : Unit := ()
noncomputable def holds.tw15566834751306803897 : Unit := ()
noncomputable def holds.tw2968269021609975873 : Unit := ()
noncomputable def holds.tw17087466662150396210 : Unit := ()
noncomputable def holds.tw5531990279233569197 : Unit := ()
noncomputable def holds.tw16034146489351607153 : Unit := ()
noncomputable def holds.tw10726778698580467152 : Unit := ()
noncomputable def holds.tw1032644102275906610 : Unit := ()
noncomputable def holds.tw11566098377363298415 : Unit := ()
noncomputable def holds.tw4374827463496512255 : Unit := ()
noncomputable def holds.tw14856189802965030758 : Unit := ()
noncomputable def holds.tw10807475332292939257 : Unit := ()
noncomputable def holds.tw16697607604324151607 : Unit := ()
noncomputable def holds.tw6305404595935261976 : Unit := ()
noncomputable def holds.tw4695128735345963622 : Unit := ()
noncomputable def holds.tw151567797773009622 : Unit := ()
noncomputable def holds.tw5595351579658275231 : Unit := ()
noncomputable def holds.tw15216533652830951187 : Unit := ()
noncomputable def holds.tw17591727778206626035 : Unit := ()
noncomputable def holds.tw7885888744534978006 : Unit := ()
noncomputable def holds.tw7365562674294520451 : Unit := ()
noncomputable def holds.tw12461706298059298081 : Unit := ()
noncomputable def holds.tw16497969686579978388 : Unit := ()
noncomputable def holds.tw2167384251425162797 : Unit := ()
noncomputable def holds.tw8067858942452583622 : Unit := ()
noncomputable def holds.tw5959074840488112208 : Unit := ()
noncomputable def holds.tw1508545211966159021 : Unit := ()
noncomputable def holds.tw2697976716319701033 : Unit := ()
noncomputable def holds.tw10009309266167291388 : Unit := ()
noncomputable def holds.tw17040301576142915119 : Unit := ()
noncomputable def holds.tw9462340624215136286 : Unit := ()
noncomputable def holds.tw14064534554856164141 : Unit := ()
noncomputable def holds.tw12553914923479104506 : Unit := ()
noncomputable def holds.tw7058599786907716777 : Unit := ()
noncomputable def holds.tw2277698456845511444 : Unit := ()
noncomputable def holds.tw4137054072099604216 : Unit := ()
noncomputable def holds.tw4952593789767209597 : Unit := ()
noncomputable def holds.tw12354433232887552844 : Unit := ()
noncomputable def holds.tw16307742377514257941 : Unit := ()
noncomputable def holds.tw18157199790412609354 : Unit := ()
noncomputable def holds.tw4796666493748621973 : Unit := ()
noncomputable def holds.tw9284948610034456067 : Unit := ()
noncomputable def holds.tw17549760099613038055 : Unit := ()
noncomputable def holds.tw7791430327242384495 : Unit := ()
noncomputable def holds.tw8163853742193369449 : Unit := ()
noncomputable def holds.tw16725066886706607050 : Unit := ()
noncomputable def holds.tw15326264675407861456 : Unit := ()
noncomputable def holds.tw14040500308302212198 : Unit := ()
noncomputable def holds.tw5898628582698610718 : Unit := ()
noncomputable def holds.tw17180457848445815676 : Unit := ()
noncomputable def holds.tw14411328915609312922 : Unit := ()
noncomputable def holds.tw15733542881966949079 : Unit := ()
noncomputable def holds.tw16887932952891968693 : Unit := ()
noncomputable def holds.tw10876536743886354276 : Unit := ()
noncomputable def holds.tw2752272122444995253 : Unit := ()
noncomputable def holds.tw15067597555674803608 : Unit := ()
noncomputable def holds.tw9518972631687950247 : Unit := ()
noncomputable def holds.tw3589964763223657672 : Unit := ()
noncomputable def holds.tw3349518531870832243 : Unit := ()
noncomputable def holds.tw16286308178466712102 : Unit := ()
noncomputable def holds.tw15985840036639034899 : Unit := ()
noncomputable def holds.tw9458989268892848673 : Unit := ()
noncomputable def holds.tw10840139340582571922 : Unit := ()
noncomputable def holds.tw14947864908287233490 : Unit := ()
noncomputable def holds.tw17076291190057227869 : Unit := ()
noncomputable def holds.tw9569093901706499007 : Unit := ()
noncomputable def holds.tw3117193011312037209 : Unit := ()
noncomputable def holds.tw14400433609042604536 : Unit := ()
noncomputable def holds.tw13942211991455542721 : Unit := ()
noncomputable def holds.tw1180276462324527112 : Unit := ()
noncomputable def holds.tw11413208387583891290 : Unit := ()
noncomputable def holds.tw13219762378693318442 : Unit := ()
noncomputable def holds.tw6027180799015181879 : Unit := ()
noncomputable def holds.tw2766847245526771718 : Unit := ()
noncomputable def holds.tw16651382363083451700 : Unit := ()
noncomputable def holds.tw10494946348260405530 : Unit := ()
noncomputable def holds.tw11502601298335438083 : Unit := ()
noncomputable def holds.tw9250495785965993271 : Unit := ()
noncomputable def holds.tw7221694943082674061 : Unit := ()
noncomputable def holds.tw7400771686186127474 : Unit := ()
noncomputable def holds.tw14271935136423247726 : Unit := ()
noncomputable def holds.tw11341941285841758863 : Unit := ()
noncomputable def holds.tw10679687220464918932 : Unit := ()
noncomputable def holds.tw16762735861678686087 : Unit := ()
noncomputable def holds.tw8365977135183407358 : Unit := ()
noncomputable def holds.tw1974762919298152056 : Unit := ()
noncomputable def holds.tw4381757428849502282 : Unit := ()
noncomputable def holds.tw4700713122064472571 : Unit := ()
noncomputable def holds.tw10637851664137882224 : Unit := ()
noncomputable def holds.tw854715265852234644 : Unit := ()
noncomputable def holds.tw16478504620199068264 : Unit := ()
noncomputable def holds.tw10677865647760817919 : Unit := ()
noncomputable def holds.tw16801115162389100519 : Unit := ()
noncomputable def holds.tw13676757877788619591 : Unit := ()
noncomputable def holds.tw6871585250140865760 : Unit := ()
noncomputable def holds.tw2511256036297951264 : Unit := ()
noncomputable def holds.tw10817008591213730988 : Unit := ()
noncomputable def holds.tw17647985033660283594 : Unit := ()
noncomputable def holds.tw12056596633878991817 : Unit := ()
noncomputable def holds.tw6816380694822836728 : Unit := ()
noncomputable def holds.tw11378972443561828832 : Unit := ()
noncomputable def holds.tw12333501511574756481 : Unit := ()
noncomputable def holds.tw10028576996824322293 : Unit := ()
noncomputable def holds.tw15919173128261314395 : Unit := ()
noncomputable def holds.tw4252685499439207924 : Unit := ()
noncomputable def holds.tw7810582327123544015 : Unit := ()
noncomputable def holds.tw16075053759526825020 : Unit := ()
noncomputable def holds.tw4496467784121089108 : Unit := ()
noncomputable def holds.tw2755282712834182541 : Unit := ()
noncomputable def holds.tw13899955331829678731 : Unit := ()
noncomputable def holds.tw10292701021901942622 : Unit := ()
noncomputable def holds.tw5915465848944024539 : Unit := ()
noncomputable def holds.tw18374689057720224539 : Unit := ()
noncomputable def holds.tw9408521175777228426 : Unit := ()
noncomputable def holds.tw8684541073956307770 : Unit := ()
noncomputable def holds.tw7923532146935061810 : Unit := ()
noncomputable def holds.tw3210078786618844196 : Unit := ()
noncomputable def holds.tw8102643725754146565 : Unit := ()
noncomputable def holds.tw6396523623945614605 : Unit := ()
noncomputable def holds.tw14083834280242248106 : Unit := ()
noncomputable def holds.tw12762722769849151566 : Unit := ()
noncomputable def holds.tw4058053667012250377 : Unit := ()
noncomputable def holds.tw14571696787620697854 : Unit := ()
noncomputable def holds.tw14751579383510745608 : Unit := ()
noncomputable def holds.tw9441326970708011783 : Unit := ()
noncomputable def holds.tw1986877004247180340 : Unit := ()
noncomputable def holds.tw12322914241283428633 : Unit := ()
noncomputable def holds.tw9890372494799421562 : Unit := ()
noncomputable def holds.tw98196739984318054 : Unit := ()
noncomputable def holds.tw10705761992013847755 : Unit := ()
noncomputable def holds.tw7235909688915465346 : Unit := ()
noncomputable def holds.tw4320952357017371039 : Unit := ()
noncomputable def holds.tw9866653766423218390 : Unit := ()
noncomputable def holds.tw4485590747672999114 : Unit := ()
noncomputable def holds.tw15663057623668237757 : Unit := ()
noncomputable def holds.tw12584058235822683084 : Unit := ()
noncomputable def holds.tw1477864382951527211 : Unit := ()
noncomputable def holds.tw14456359579513077766 : Unit := ()
noncomputable def holds.tw7459122314025714673 : Unit := ()
noncomputable def holds.tw4532548537324856634 : Unit := ()
noncomputable def holds.tw4624323801304008105 : Unit := ()
noncomputable def holds.tw14027143162585244968 : Unit := ()
noncomputable def holds.tw6072511530176384962 : Unit := ()
noncomputable def holds.tw11568272619759294016 : Unit := ()
noncomputable def holds.tw6817751937963910627 : Unit := ()
noncomputable def holds.tw7145057240379410032 : Unit := ()
noncomputable def holds.tw9878063783549791415 : Unit := ()
noncomputable def holds.tw10954607271099289585 : Unit := ()
noncomputable def holds.tw3279077582325829838 : Unit := ()
noncomputable def holds.tw685634667276709000 : Unit := ()
noncomputable def holds.tw4197124852483764760 : Unit := ()
noncomputable def holds.tw4475622257904601326 : Unit := ()
noncomputable def holds.tw12467034654032377186 : Unit := ()
noncomputable def holds.tw15356600547250028879 : Unit := ()
noncomputable def holds.tw13651502964188933756 : Unit := ()
noncomputable def holds.tw4989695622661515502 : Unit := ()
noncomputable def holds.tw5046306585264764695 : Unit := ()
noncomputable def holds.tw9160933379109621080 : Unit := ()
noncomputable def holds.tw6489310206099298910 : Unit := ()
noncomputable def holds.tw9430090754398894584 : Unit := ()
noncomputable def holds.tw1569810199879761147 : Unit := ()
noncomputable def holds.tw3092724735428445279 : Unit := ()
noncomputable def holds.tw6606875086121380550 : Unit := ()
noncomputable def holds.tw17779192219718171531 : Unit := ()
noncomputable def holds.tw143238340834578260 : Unit := ()
noncomputable def holds.tw3280128972450656526 : Unit := ()
noncomputable def holds.tw15464432741802594518 : Unit := ()
noncomputable def holds.tw17516818768086975123 : Unit := ()
noncomputable def holds.tw8571184235532366510 : Unit := ()
noncomputable def holds.tw10420193826912684852 : Unit := ()
noncomputable def holds.tw11612728935029869629 : Unit := ()
noncomputable def holds.tw945861476033566700 : Unit := ()
noncomputable def holds.tw185807328385624810 : Unit := ()
noncomputable def holds.tw11408340709373832527 : Unit := ()
noncomputable def holds.tw12736823529576279204 : Unit := ()
noncomputable def holds.tw8551410553514715252 : Unit := ()
noncomputable def holds.tw8564859838321607590 : Unit := ()
noncomputable def holds.tw11379536335273661636 : Unit := ()
noncomputable def holds.tw14374762386000251392 : Unit := ()
noncomputable def holds.tw18232564904221570389 : Unit := ()
noncomputable def holds.tw3964553439336064567 : Unit := ()
noncomputable def holds.tw13980644296350529377 : Unit := ()
noncomputable def holds.tw1170372120433861351 : Unit := ()
noncomputable def holds.tw11759793716441912868 : Unit := ()
noncomputable def holds.tw16900590462404453081 : Unit := ()
noncomputable def holds.tw16568243084613897719 : Unit := ()
noncomputable def holds.tw11896979934692212325 : Unit := ()
noncomputable def holds.tw5282283922864298156 : Unit := ()
noncomputable def holds.tw13860560629476652642 : Unit := ()
noncomputable def holds.tw16315053957116525436 : Unit := ()
noncomputable def holds.tw9638990691586225099 : Unit := ()
noncomputable def holds.tw16617498834693519143 : Unit := ()
noncomputable def holds.tw12657093848384798476 : Unit := ()
set_option maxHeartbeats 0 in
set_option Elab.async true in
theorem holds : PySem.Challenge.rw_nu0186_01.Holds := by
  w_on
  o_law
  k_head
  (case hw => w_witness2)
  k_go0
  rename Top _ _ _ _ _ _ => T
  rename Frag.In _ _ => KX
  rename IntsAre _ _ => hI
  rename Heap.IsList _ _ _ => hL
  rename Fr _ _ _ _ => F0
  rename News _ _ _ _ => N0
  refine entry T (in_same ?_ KX) F0 N0 rfl ?_ ?_ ?_ ?_ ?_ hL hI ?_ ?_ ?_
  · kernel_rfl
  · assumption
  · assumption
  · assumption
  · assumption
  · generalize Array.size _ = z
    simp
  · omega
  · exact (⟨rfl, by decide, by decide⟩ : Rm callerA 21).deeper
  · intro h' tk' le
    refine ⟨.inl ⟨_, _, _, rfl, fun _ => rfl, .bool true, ?_, fun _ => ⟨List.nodup_nil, fun _ hp => nomatch hp⟩⟩, le, rfl, ‹_›⟩
    refine postW_of (X := true) ?_ ?_ rfl
    · first | rfl | with_unfolding_all rfl | kernel_rfl
    · first | rfl | with_unfolding_all rfl | kernel_rfl
end Mine
set_option maxHeartbeats 4000000 in
theorem PySem.Challenge.cw_nu0186_01_holds : PySem.Challenge.rw_nu0186_01.Holds := by
  exact Mine.holds
