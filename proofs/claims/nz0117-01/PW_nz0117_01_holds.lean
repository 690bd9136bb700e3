import PyProof.Rows.All
import Wide.All
import OpenK.AllK
import Wide.FinOn
import PySem.Challenge.RW_nz0117_01
set_option maxRecDepth 100000
set_option compiler.extract_closed false
set_option Elab.async false
open PySem PySem.W PySem.Spec PySem.Calls PyProof.Rows
namespace Mine
/-- the parts of the text, by their places -/
def nthS : List Stmt → Nat → Stmt
  | [], _ => .Pass default
  | s :: _, 0 => s
  | _ :: r, n + 1 => nthS r n
def tS (i : Nat) : Stmt := nthS PySem.Challenge.pw_nz0117_01.main.body i
def mS (i j : Nat) : Stmt := match tS i with
  | .ClassDef _ _ _ b .. => nthS b j
  | s => s
abbrev fF (st : Stmt) (qual : Str) (glob : Addr) (dV kV doc pm : Value) (an : Option Addr) (cdv ct : Value) (bi : Addr) {nm : Str} {a : Arguments} {b : List Stmt} {dl : List Expr} {r : Option Expr} {tp : List TypeParam} {sc : Scope} {ts : Option Scope} {bd : Str} {ps : Pos}
    (_h : Stmt.FunctionDef nm a b dl r tp sc ts bd ps = st) : Obj :=
  { cls := .type "function", data := .func { name := nm, qualname := qual, params := a, body := .stmts b, scope := sc, globals := glob, closure := [], defaults := dV, kwdefaults := kV, doc := doc, pyModule := pm, annotations := an, code := cdv, closureTuple := ct, builtins := bi } }
noncomputable def KK : Params → Frag := fun P =>
  (nat_lit 2, { cls := Value.none, data := Data.dict #[] }) ::
  (nat_lit 3, { cls := Value.type "dict", data := Data.dict #[{ hash := PyData.keyHash P (Str.ofString "__name__"), key := Value.str (Str.ofString "__name__") 165, val := Value.str (Str.ofString "law_nz0117_01") 939 }, { hash := PyData.keyHash P (Str.ofString "__doc__"), key := Value.str (Str.ofString "__doc__") 166, val := Value.none }, { hash := PyData.keyHash P (Str.ofString "__package__"), key := Value.str (Str.ofString "__package__") 167, val := Value.none }, { hash := PyData.keyHash P (Str.ofString "__loader__"), key := Value.str (Str.ofString "__loader__") 168, val := Value.builtin "__main__.__loader__#opaque" }, { hash := PyData.keyHash P (Str.ofString "__spec__"), key := Value.str (Str.ofString "__spec__") 169, val := Value.none }, { hash := PyData.keyHash P (Str.ofString "__annotations__"), key := Value.str (Str.ofString "__annotations__") 170, val := Value.ref 6 }, { hash := PyData.keyHash P (Str.ofString "__builtins__"), key := Value.str (Str.ofString "__builtins__") 171, val := Value.ref 4 }, { hash := PyData.keyHash P (Str.ofString "__file__"), key := Value.str (Str.ofString "__file__") 173, val := Value.str (Str.ofString "/claim/cut.py") 172 }, { hash := PyData.keyHash P (Str.ofString "__cached__"), key := Value.str (Str.ofString "__cached__") 174, val := Value.none }, { hash := PyData.keyHash P (Str.ofString "_wall"), key := Value.str (Str.ofString "_wall") 193, val := Value.ref 21 }, { hash := PyData.keyHash P (Str.ofString "Anchor"), key := Value.str (Str.ofString "Anchor") 233, val := Value.ref 45 }, { hash := PyData.keyHash P (Str.ofString "told_anchor"), key := Value.str (Str.ofString "told_anchor") 240, val := Value.ref 56 }, { hash := PyData.keyHash P (Str.ofString "difference"), key := Value.str (Str.ofString "difference") 248, val := Value.ref 63 }, { hash := PyData.keyHash P (Str.ofString "told_marks"), key := Value.str (Str.ofString "told_marks") 254, val := Value.ref 68 }, { hash := PyData.keyHash P (Str.ofString "IGNORE_BASES"), key := Value.str (Str.ofString "IGNORE_BASES") 258, val := Value.int 2 257 }, { hash := PyData.keyHash P (Str.ofString "IGNORE_LIGATURES"), key := Value.str (Str.ofString "IGNORE_LIGATURES") 260, val := Value.int 4 259 }, { hash := PyData.keyHash P (Str.ofString "IGNORE_MARKS"), key := Value.str (Str.ofString "IGNORE_MARKS") 262, val := Value.int 8 261 }, { hash := PyData.keyHash P (Str.ofString "USE_SET"), key := Value.str (Str.ofString "USE_SET") 264, val := Value.int 16 263 }, { hash := PyData.keyHash P (Str.ofString "Lookup"), key := Value.str (Str.ofString "Lookup") 305, val := Value.ref 90 }, { hash := PyData.keyHash P (Str.ofString "Scene"), key := Value.str (Str.ofString "Scene") 346, val := Value.ref 112 }, { hash := PyData.keyHash P (Str.ofString "attach_wanted"), key := Value.str (Str.ofString "attach_wanted") 353, val := Value.ref 123 }, { hash := PyData.keyHash P (Str.ofString "class_bit"), key := Value.str (Str.ofString "class_bit") 360, val := Value.ref 130 }, { hash := PyData.keyHash P (Str.ofString "is_ignored"), key := Value.str (Str.ofString "is_ignored") 371, val := Value.ref 137 }, { hash := PyData.keyHash P (Str.ofString "passes"), key := Value.str (Str.ofString "passes") 379, val := Value.ref 144 }, { hash := PyData.keyHash P (Str.ofString "Info"), key := Value.str (Str.ofString "Info") 441, val := Value.ref 175 }, { hash := PyData.keyHash P (Str.ofString "Buffer"), key := Value.str (Str.ofString "Buffer") 507, val := Value.ref 228 }, { hash := PyData.keyHash P (Str.ofString "hang"), key := Value.str (Str.ofString "hang") 513, val := Value.ref 237 }, { hash := PyData.keyHash P (Str.ofString "KINDS_AROUND"), key := Value.str (Str.ofString "KINDS_AROUND") 519, val := Value.ref 238 }, { hash := PyData.keyHash P (Str.ofString "neighbour"), key := Value.str (Str.ofString "neighbour") 529, val := Value.ref 245 }, { hash := PyData.keyHash P (Str.ofString "before_at"), key := Value.str (Str.ofString "before_at") 537, val := Value.ref 252 }, { hash := PyData.keyHash P (Str.ofString "loosen"), key := Value.str (Str.ofString "loosen") 546, val := Value.ref 259 }, { hash := PyData.keyHash P (Str.ofString "break_ring"), key := Value.str (Str.ofString "break_ring") 557, val := Value.ref 266 }, { hash := PyData.keyHash P (Str.ofString "MARK_GLYPH"), key := Value.str (Str.ofString "MARK_GLYPH") 561, val := Value.int 3 560 }, { hash := PyData.keyHash P (Str.ofString "classes_of"), key := Value.str (Str.ofString "classes_of") 567, val := Value.ref 271 }, { hash := PyData.keyHash P (Str.ofString "told_row"), key := Value.str (Str.ofString "told_row") 573, val := Value.ref 276 }, { hash := PyData.keyHash P (Str.ofString "has_anchor"), key := Value.str (Str.ofString "has_anchor") 579, val := Value.ref 281 }, { hash := PyData.keyHash P (Str.ofString "told_by_glyph"), key := Value.str (Str.ofString "told_by_glyph") 590, val := Value.ref 288 }, { hash := PyData.keyHash P (Str.ofString "MarkBase"), key := Value.str (Str.ofString "MarkBase") 628, val := Value.ref 312 }, { hash := PyData.keyHash P (Str.ofString "MarkMark"), key := Value.str (Str.ofString "MarkMark") 666, val := Value.ref 340 }, { hash := PyData.keyHash P (Str.ofString "scene_with"), key := Value.str (Str.ofString "scene_with") 676, val := Value.ref 351 }, { hash := PyData.keyHash P (Str.ofString "is_mark_at"), key := Value.str (Str.ofString "is_mark_at") 684, val := Value.ref 358 }, { hash := PyData.keyHash P (Str.ofString "is_later_part"), key := Value.str (Str.ofString "is_later_part") 694, val := Value.ref 365 }, { hash := PyData.keyHash P (Str.ofString "base_ahead"), key := Value.str (Str.ofString "base_ahead") 704, val := Value.ref 372 }, { hash := PyData.keyHash P (Str.ofString "set_on"), key := Value.str (Str.ofString "set_on") 719, val := Value.ref 379 }, { hash := PyData.keyHash P (Str.ofString "apply_base"), key := Value.str (Str.ofString "apply_base") 729, val := Value.ref 386 }, { hash := PyData.keyHash P (Str.ofString "are_of_one"), key := Value.str (Str.ofString "are_of_one") 737, val := Value.ref 393 }, { hash := PyData.keyHash P (Str.ofString "apply_mark"), key := Value.str (Str.ofString "apply_mark") 749, val := Value.ref 400 }, { hash := PyData.keyHash P (Str.ofString "chain_from"), key := Value.str (Str.ofString "chain_from") 760, val := Value.ref 407 }, { hash := PyData.keyHash P (Str.ofString "add_place"), key := Value.str (Str.ofString "add_place") 768, val := Value.ref 414 }, { hash := PyData.keyHash P (Str.ofString "take_advances"), key := Value.str (Str.ofString "take_advances") 778, val := Value.ref 421 }, { hash := PyData.keyHash P (Str.ofString "settle_one"), key := Value.str (Str.ofString "settle_one") 789, val := Value.ref 428 }, { hash := PyData.keyHash P (Str.ofString "settle"), key := Value.str (Str.ofString "settle") 799, val := Value.ref 435 }, { hash := PyData.keyHash P (Str.ofString "ClassDef"), key := Value.str (Str.ofString "ClassDef") 861, val := Value.ref 478 }, { hash := PyData.keyHash P (Str.ofString "NO_CLASS"), key := Value.str (Str.ofString "NO_CLASS") 865, val := Value.int 0 864 }, { hash := PyData.keyHash P (Str.ofString "BASE"), key := Value.str (Str.ofString "BASE") 867, val := Value.int 1 866 }, { hash := PyData.keyHash P (Str.ofString "COMPONENT"), key := Value.str (Str.ofString "COMPONENT") 869, val := Value.int 4 868 }, { hash := PyData.keyHash P (Str.ofString "Gdef"), key := Value.str (Str.ofString "Gdef") 938, val := Value.ref 526 }, { hash := PyData.keyHash P (Str.ofString "_law_pen"), key := Value.str (Str.ofString "_law_pen") 946, val := Value.ref 535 }, { hash := PyData.keyHash P (Str.ofString "_law_draw"), key := Value.str (Str.ofString "_law_draw") 956, val := Value.ref 542 }, { hash := PyData.keyHash P (Str.ofString "_law_ends"), key := Value.str (Str.ofString "_law_ends") 965, val := Value.ref 549 }, { hash := PyData.keyHash P (Str.ofString "law"), key := Value.str (Str.ofString "law") 971, val := Value.ref 554 }] 61 }) ::
  (nat_lit 20, { cls := Value.type "code", data := Data.fields #[Value.str (Str.ofString "_wall") 187, Value.str (Str.ofString "_wall") 188, Value.str (Str.ofString "/claim/cut.py") 189, Value.int 1 0, Value.int 1 0, Value.int 0 0, Value.int 0 0, Value.int 3 0, Value.ref 15, Value.bool true, Value.int 181 0, Value.ref 16, Value.none, Value.ref 17, Value.ref 18, Value.ref 19, Value.int 191 0, Value.int 1 0, Value.str (Str.ofString "/claim/cut.py") 192] }) ::
  (nat_lit 21, fF (tS (nat_lit 0)) (Str.ofString "_wall") 3 (Value.none) (Value.none) (Value.none) (Value.str (Str.ofString "__main__") 164) none (Value.ref 20) (Value.none) 0 rfl) ::
  (nat_lit 34, { cls := Value.type "code", data := Data.fields #[Value.str (Str.ofString "__init__") 208, Value.str (Str.ofString "Anchor.__init__") 209, Value.str (Str.ofString "/claim/cut.py") 210, Value.int 7 0, Value.int 3 0, Value.int 0 0, Value.int 0 0, Value.int 3 0, Value.ref 29, Value.bool true, Value.int 181 0, Value.ref 30, Value.none, Value.ref 31, Value.ref 32, Value.ref 33, Value.int 214 0, Value.int 7 0, Value.str (Str.ofString "/claim/cut.py") 215] }) ::
  (nat_lit 35, fF (mS (nat_lit 2) (nat_lit 0)) (Str.ofString "Anchor.__init__") 3 (Value.none) (Value.none) (Value.none) (Value.str (Str.ofString "joinedhand.anchors") 194) none (Value.ref 34) (Value.none) 0 rfl) ::
  (nat_lit 41, { cls := Value.type "code", data := Data.fields #[Value.str (Str.ofString "told") 217, Value.str (Str.ofString "Anchor.told") 218, Value.str (Str.ofString "/claim/cut.py") 219, Value.int 11 0, Value.int 1 0, Value.int 0 0, Value.int 0 0, Value.int 3 0, Value.ref 36, Value.bool true, Value.int 181 0, Value.ref 37, Value.none, Value.ref 38, Value.ref 39, Value.ref 40, Value.int 221 0, Value.int 11 0, Value.str (Str.ofString "/claim/cut.py") 222] }) ::
  (nat_lit 42, fF (mS (nat_lit 2) (nat_lit 1)) (Str.ofString "Anchor.told") 3 (Value.none) (Value.none) (Value.none) (Value.str (Str.ofString "joinedhand.anchors") 194) none (Value.ref 41) (Value.none) 0 rfl) ::
  (nat_lit 44, { cls := Value.type "dict", data := Data.dict #[{ hash := PyData.keyHash P (Str.ofString "__module__"), key := Value.str (Str.ofString "__module__") 203, val := Value.str (Str.ofString "joinedhand.anchors") 194 }, { hash := PyData.keyHash P (Str.ofString "__firstlineno__"), key := Value.str (Str.ofString "__firstlineno__") 207, val := Value.int 5 206 }, { hash := PyData.keyHash P (Str.ofString "__init__"), key := Value.str (Str.ofString "__init__") 216, val := Value.ref 35 }, { hash := PyData.keyHash P (Str.ofString "told"), key := Value.str (Str.ofString "told") 223, val := Value.ref 42 }, { hash := PyData.keyHash P (Str.ofString "__static_attributes__"), key := Value.str (Str.ofString "__static_attributes__") 226, val := Value.ref 43 }, { hash := PyData.keyHash P (Str.ofString "__dict__"), key := Value.str (Str.ofString "__dict__") 228, val := Value.ref 46 }, { hash := PyData.keyHash P (Str.ofString "__weakref__"), key := Value.str (Str.ofString "__weakref__") 230, val := Value.ref 47 }, { hash := PyData.keyHash P (Str.ofString "__doc__"), key := Value.str (Str.ofString "__doc__") 231, val := Value.none }] 4 }) ::
  (nat_lit 45, { cls := Value.type "type", data := Data.cls { name := Str.ofString "Anchor", bases := [Value.type "object"], mro := [Value.ref 45, Value.type "object"], ns := 44, qualname := Str.ofString "Anchor" }, slots := #[none, none, some (Value.str (Str.ofString "Anchor") 196), some (Value.str (Str.ofString "Anchor") 204), some (Value.builtin "object.__new__"), some (Value.bool true)] }) ::
  (nat_lit 55, { cls := Value.type "code", data := Data.fields #[Value.str (Str.ofString "told_anchor") 234, Value.str (Str.ofString "told_anchor") 235, Value.str (Str.ofString "/claim/cut.py") 236, Value.int 13 0, Value.int 1 0, Value.int 0 0, Value.int 0 0, Value.int 3 0, Value.ref 50, Value.bool true, Value.int 181 0, Value.ref 51, Value.none, Value.ref 52, Value.ref 53, Value.ref 54, Value.int 238 0, Value.int 13 0, Value.str (Str.ofString "/claim/cut.py") 239] }) ::
  (nat_lit 56, fF (tS (nat_lit 3)) (Str.ofString "told_anchor") 3 (Value.none) (Value.none) (Value.none) (Value.str (Str.ofString "joinedhand.anchors") 194) none (Value.ref 55) (Value.none) 0 rfl) ::
  (nat_lit 62, { cls := Value.type "code", data := Data.fields #[Value.str (Str.ofString "difference") 241, Value.str (Str.ofString "difference") 242, Value.str (Str.ofString "/claim/cut.py") 243, Value.int 15 0, Value.int 2 0, Value.int 0 0, Value.int 0 0, Value.int 3 0, Value.ref 57, Value.bool true, Value.int 181 0, Value.ref 58, Value.none, Value.ref 59, Value.ref 60, Value.ref 61, Value.int 246 0, Value.int 15 0, Value.str (Str.ofString "/claim/cut.py") 247] }) ::
  (nat_lit 63, fF (tS (nat_lit 4)) (Str.ofString "difference") 3 (Value.none) (Value.none) (Value.none) (Value.str (Str.ofString "joinedhand.anchors") 194) none (Value.ref 62) (Value.none) 0 rfl) ::
  (nat_lit 67, { cls := Value.type "code", data := Data.fields #[Value.str (Str.ofString "told_marks") 249, Value.str (Str.ofString "told_marks") 250, Value.str (Str.ofString "/claim/cut.py") 251, Value.int 17 0, Value.int 1 0, Value.int 0 0, Value.int 0 0, Value.int 3 0, Value.ref 64, Value.bool true, Value.int 181 0, Value.ref 65, Value.none, Value.none, Value.none, Value.ref 66, Value.int 252 0, Value.int 17 0, Value.str (Str.ofString "/claim/cut.py") 253] }) ::
  (nat_lit 68, fF (tS (nat_lit 5)) (Str.ofString "told_marks") 3 (Value.none) (Value.none) (Value.none) (Value.str (Str.ofString "joinedhand.anchors") 194) none (Value.ref 67) (Value.none) 0 rfl) ::
  (nat_lit 81, { cls := Value.type "code", data := Data.fields #[Value.str (Str.ofString "__init__") 277, Value.str (Str.ofString "Lookup.__init__") 278, Value.str (Str.ofString "/claim/cut.py") 279, Value.int 26 0, Value.int 5 0, Value.int 0 0, Value.int 0 0, Value.int 3 0, Value.ref 76, Value.bool true, Value.int 181 0, Value.ref 77, Value.none, Value.ref 78, Value.ref 79, Value.ref 80, Value.int 285 0, Value.int 26 0, Value.str (Str.ofString "/claim/cut.py") 286] }) ::
  (nat_lit 82, fF (mS (nat_lit 11) (nat_lit 0)) (Str.ofString "Lookup.__init__") 3 (Value.none) (Value.none) (Value.none) (Value.str (Str.ofString "joinedhand.flags") 255) none (Value.ref 81) (Value.none) 0 rfl) ::
  (nat_lit 86, { cls := Value.type "code", data := Data.fields #[Value.str (Str.ofString "told") 288, Value.str (Str.ofString "Lookup.told") 289, Value.str (Str.ofString "/claim/cut.py") 290, Value.int 32 0, Value.int 1 0, Value.int 0 0, Value.int 0 0, Value.int 3 0, Value.ref 83, Value.bool true, Value.int 181 0, Value.ref 84, Value.none, Value.none, Value.none, Value.ref 85, Value.int 291 0, Value.int 32 0, Value.str (Str.ofString "/claim/cut.py") 292] }) ::
  (nat_lit 87, fF (mS (nat_lit 11) (nat_lit 1)) (Str.ofString "Lookup.told") 3 (Value.none) (Value.none) (Value.none) (Value.str (Str.ofString "joinedhand.flags") 255) none (Value.ref 86) (Value.none) 0 rfl) ::
  (nat_lit 89, { cls := Value.type "dict", data := Data.dict #[{ hash := PyData.keyHash P (Str.ofString "__module__"), key := Value.str (Str.ofString "__module__") 272, val := Value.str (Str.ofString "joinedhand.flags") 255 }, { hash := PyData.keyHash P (Str.ofString "__firstlineno__"), key := Value.str (Str.ofString "__firstlineno__") 276, val := Value.int 24 275 }, { hash := PyData.keyHash P (Str.ofString "__init__"), key := Value.str (Str.ofString "__init__") 287, val := Value.ref 82 }, { hash := PyData.keyHash P (Str.ofString "told"), key := Value.str (Str.ofString "told") 293, val := Value.ref 87 }, { hash := PyData.keyHash P (Str.ofString "__static_attributes__"), key := Value.str (Str.ofString "__static_attributes__") 298, val := Value.ref 88 }, { hash := PyData.keyHash P (Str.ofString "__dict__"), key := Value.str (Str.ofString "__dict__") 300, val := Value.ref 91 }, { hash := PyData.keyHash P (Str.ofString "__weakref__"), key := Value.str (Str.ofString "__weakref__") 302, val := Value.ref 92 }, { hash := PyData.keyHash P (Str.ofString "__doc__"), key := Value.str (Str.ofString "__doc__") 303, val := Value.none }] 4 }) ::
  (nat_lit 90, { cls := Value.type "type", data := Data.cls { name := Str.ofString "Lookup", bases := [Value.type "object"], mro := [Value.ref 90, Value.type "object"], ns := 89, qualname := Str.ofString "Lookup" }, slots := #[none, none, some (Value.str (Str.ofString "Lookup") 265), some (Value.str (Str.ofString "Lookup") 273), some (Value.builtin "object.__new__"), some (Value.bool true)] }) ::
  (nat_lit 102, { cls := Value.type "tuple", data := Data.seq #[Value.int 0 318] }) ::
  (nat_lit 108, { cls := Value.type "code", data := Data.fields #[Value.str (Str.ofString "__init__") 319, Value.str (Str.ofString "Scene.__init__") 320, Value.str (Str.ofString "/claim/cut.py") 321, Value.int 37 0, Value.int 7 0, Value.int 0 0, Value.int 0 0, Value.int 3 0, Value.ref 103, Value.bool true, Value.int 181 0, Value.ref 104, Value.none, Value.ref 105, Value.ref 106, Value.ref 107, Value.int 329 0, Value.int 37 0, Value.str (Str.ofString "/claim/cut.py") 330] }) ::
  (nat_lit 109, fF (mS (nat_lit 12) (nat_lit 0)) (Str.ofString "Scene.__init__") 3 (Value.ref 102) (Value.none) (Value.none) (Value.str (Str.ofString "joinedhand.flags") 255) none (Value.ref 108) (Value.none) 0 rfl) ::
  (nat_lit 111, { cls := Value.type "dict", data := Data.dict #[{ hash := PyData.keyHash P (Str.ofString "__module__"), key := Value.str (Str.ofString "__module__") 313, val := Value.str (Str.ofString "joinedhand.flags") 255 }, { hash := PyData.keyHash P (Str.ofString "__firstlineno__"), key := Value.str (Str.ofString "__firstlineno__") 317, val := Value.int 35 316 }, { hash := PyData.keyHash P (Str.ofString "__init__"), key := Value.str (Str.ofString "__init__") 331, val := Value.ref 109 }, { hash := PyData.keyHash P (Str.ofString "__static_attributes__"), key := Value.str (Str.ofString "__static_attributes__") 339, val := Value.ref 110 }, { hash := PyData.keyHash P (Str.ofString "__dict__"), key := Value.str (Str.ofString "__dict__") 341, val := Value.ref 113 }, { hash := PyData.keyHash P (Str.ofString "__weakref__"), key := Value.str (Str.ofString "__weakref__") 343, val := Value.ref 114 }, { hash := PyData.keyHash P (Str.ofString "__doc__"), key := Value.str (Str.ofString "__doc__") 344, val := Value.none }] 4 }) ::
  (nat_lit 112, { cls := Value.type "type", data := Data.cls { name := Str.ofString "Scene", bases := [Value.type "object"], mro := [Value.ref 112, Value.type "object"], ns := 111, qualname := Str.ofString "Scene" }, slots := #[none, none, some (Value.str (Str.ofString "Scene") 306), some (Value.str (Str.ofString "Scene") 314), some (Value.builtin "object.__new__"), some (Value.bool true)] }) ::
  (nat_lit 122, { cls := Value.type "code", data := Data.fields #[Value.str (Str.ofString "attach_wanted") 347, Value.str (Str.ofString "attach_wanted") 348, Value.str (Str.ofString "/claim/cut.py") 349, Value.int 45 0, Value.int 1 0, Value.int 0 0, Value.int 0 0, Value.int 3 0, Value.ref 117, Value.bool true, Value.int 181 0, Value.ref 118, Value.none, Value.ref 119, Value.ref 120, Value.ref 121, Value.int 351 0, Value.int 45 0, Value.str (Str.ofString "/claim/cut.py") 352] }) ::
  (nat_lit 123, fF (tS (nat_lit 13)) (Str.ofString "attach_wanted") 3 (Value.none) (Value.none) (Value.none) (Value.str (Str.ofString "joinedhand.flags") 255) none (Value.ref 122) (Value.none) 0 rfl) ::
  (nat_lit 129, { cls := Value.type "code", data := Data.fields #[Value.str (Str.ofString "class_bit") 354, Value.str (Str.ofString "class_bit") 355, Value.str (Str.ofString "/claim/cut.py") 356, Value.int 47 0, Value.int 1 0, Value.int 0 0, Value.int 0 0, Value.int 3 0, Value.ref 124, Value.bool true, Value.int 181 0, Value.ref 125, Value.none, Value.ref 126, Value.ref 127, Value.ref 128, Value.int 358 0, Value.int 47 0, Value.str (Str.ofString "/claim/cut.py") 359] }) ::
  (nat_lit 130, fF (tS (nat_lit 14)) (Str.ofString "class_bit") 3 (Value.none) (Value.none) (Value.none) (Value.str (Str.ofString "joinedhand.flags") 255) none (Value.ref 129) (Value.none) 0 rfl) ::
  (nat_lit 136, { cls := Value.type "code", data := Data.fields #[Value.str (Str.ofString "is_ignored") 361, Value.str (Str.ofString "is_ignored") 362, Value.str (Str.ofString "/claim/cut.py") 363, Value.int 49 0, Value.int 3 0, Value.int 0 0, Value.int 0 0, Value.int 3 0, Value.ref 131, Value.bool true, Value.int 181 0, Value.ref 132, Value.none, Value.ref 133, Value.ref 134, Value.ref 135, Value.int 369 0, Value.int 49 0, Value.str (Str.ofString "/claim/cut.py") 370] }) ::
  (nat_lit 137, fF (tS (nat_lit 15)) (Str.ofString "is_ignored") 3 (Value.none) (Value.none) (Value.none) (Value.str (Str.ofString "joinedhand.flags") 255) none (Value.ref 136) (Value.none) 0 rfl) ::
  (nat_lit 143, { cls := Value.type "code", data := Data.fields #[Value.str (Str.ofString "passes") 372, Value.str (Str.ofString "passes") 373, Value.str (Str.ofString "/claim/cut.py") 374, Value.int 59 0, Value.int 2 0, Value.int 0 0, Value.int 0 0, Value.int 3 0, Value.ref 138, Value.bool true, Value.int 181 0, Value.ref 139, Value.none, Value.ref 140, Value.ref 141, Value.ref 142, Value.int 377 0, Value.int 59 0, Value.str (Str.ofString "/claim/cut.py") 378] }) ::
  (nat_lit 144, fF (tS (nat_lit 16)) (Str.ofString "passes") 3 (Value.none) (Value.none) (Value.none) (Value.str (Str.ofString "joinedhand.flags") 255) none (Value.ref 143) (Value.none) 0 rfl) ::
  (nat_lit 157, { cls := Value.type "code", data := Data.fields #[Value.str (Str.ofString "__init__") 394, Value.str (Str.ofString "Info.__init__") 395, Value.str (Str.ofString "/claim/cut.py") 396, Value.int 64 0, Value.int 4 0, Value.int 0 0, Value.int 0 0, Value.int 3 0, Value.ref 152, Value.bool true, Value.int 181 0, Value.ref 153, Value.none, Value.ref 154, Value.ref 155, Value.ref 156, Value.int 401 0, Value.int 64 0, Value.str (Str.ofString "/claim/cut.py") 402] }) ::
  (nat_lit 158, fF (mS (nat_lit 18) (nat_lit 0)) (Str.ofString "Info.__init__") 3 (Value.none) (Value.none) (Value.none) (Value.str (Str.ofString "joinedhand.buffer") 380) none (Value.ref 157) (Value.none) 0 rfl) ::
  (nat_lit 164, { cls := Value.type "code", data := Data.fields #[Value.str (Str.ofString "copied") 404, Value.str (Str.ofString "Info.copied") 405, Value.str (Str.ofString "/claim/cut.py") 406, Value.int 82 0, Value.int 1 0, Value.int 0 0, Value.int 0 0, Value.int 3 0, Value.ref 159, Value.bool true, Value.int 181 0, Value.ref 160, Value.none, Value.ref 161, Value.ref 162, Value.ref 163, Value.int 408 0, Value.int 82 0, Value.str (Str.ofString "/claim/cut.py") 409] }) ::
  (nat_lit 165, fF (mS (nat_lit 18) (nat_lit 1)) (Str.ofString "Info.copied") 3 (Value.none) (Value.none) (Value.none) (Value.str (Str.ofString "joinedhand.buffer") 380) none (Value.ref 164) (Value.none) 0 rfl) ::
  (nat_lit 171, { cls := Value.type "code", data := Data.fields #[Value.str (Str.ofString "told") 411, Value.str (Str.ofString "Info.told") 412, Value.str (Str.ofString "/claim/cut.py") 413, Value.int 85 0, Value.int 1 0, Value.int 0 0, Value.int 0 0, Value.int 3 0, Value.ref 166, Value.bool true, Value.int 181 0, Value.ref 167, Value.none, Value.ref 168, Value.ref 169, Value.ref 170, Value.int 415 0, Value.int 85 0, Value.str (Str.ofString "/claim/cut.py") 416] }) ::
  (nat_lit 172, fF (mS (nat_lit 18) (nat_lit 2)) (Str.ofString "Info.told") 3 (Value.none) (Value.none) (Value.none) (Value.str (Str.ofString "joinedhand.buffer") 380) none (Value.ref 171) (Value.none) 0 rfl) ::
  (nat_lit 174, { cls := Value.type "dict", data := Data.dict #[{ hash := PyData.keyHash P (Str.ofString "__module__"), key := Value.str (Str.ofString "__module__") 389, val := Value.str (Str.ofString "joinedhand.buffer") 380 }, { hash := PyData.keyHash P (Str.ofString "__firstlineno__"), key := Value.str (Str.ofString "__firstlineno__") 393, val := Value.int 62 392 }, { hash := PyData.keyHash P (Str.ofString "__init__"), key := Value.str (Str.ofString "__init__") 403, val := Value.ref 158 }, { hash := PyData.keyHash P (Str.ofString "copied"), key := Value.str (Str.ofString "copied") 410, val := Value.ref 165 }, { hash := PyData.keyHash P (Str.ofString "told"), key := Value.str (Str.ofString "told") 417, val := Value.ref 172 }, { hash := PyData.keyHash P (Str.ofString "__static_attributes__"), key := Value.str (Str.ofString "__static_attributes__") 434, val := Value.ref 173 }, { hash := PyData.keyHash P (Str.ofString "__dict__"), key := Value.str (Str.ofString "__dict__") 436, val := Value.ref 176 }, { hash := PyData.keyHash P (Str.ofString "__weakref__"), key := Value.str (Str.ofString "__weakref__") 438, val := Value.ref 177 }, { hash := PyData.keyHash P (Str.ofString "__doc__"), key := Value.str (Str.ofString "__doc__") 439, val := Value.none }] 4 }) ::
  (nat_lit 175, { cls := Value.type "type", data := Data.cls { name := Str.ofString "Info", bases := [Value.type "object"], mro := [Value.ref 175, Value.type "object"], ns := 174, qualname := Str.ofString "Info" }, slots := #[none, none, some (Value.str (Str.ofString "Info") 382), some (Value.str (Str.ofString "Info") 390), some (Value.builtin "object.__new__"), some (Value.bool true)] }) ::
  (nat_lit 187, { cls := Value.type "tuple", data := Data.seq #[Value.bool false] }) ::
  (nat_lit 193, { cls := Value.type "code", data := Data.fields #[Value.str (Str.ofString "__init__") 454, Value.str (Str.ofString "Buffer.__init__") 455, Value.str (Str.ofString "/claim/cut.py") 456, Value.int 89 0, Value.int 3 0, Value.int 0 0, Value.int 0 0, Value.int 3 0, Value.ref 188, Value.bool true, Value.int 181 0, Value.ref 189, Value.none, Value.ref 190, Value.ref 191, Value.ref 192, Value.int 460 0, Value.int 89 0, Value.str (Str.ofString "/claim/cut.py") 461] }) ::
  (nat_lit 194, fF (mS (nat_lit 19) (nat_lit 0)) (Str.ofString "Buffer.__init__") 3 (Value.ref 187) (Value.none) (Value.none) (Value.str (Str.ofString "joinedhand.buffer") 380) none (Value.ref 193) (Value.none) 0 rfl) ::
  (nat_lit 198, { cls := Value.type "code", data := Data.fields #[Value.str (Str.ofString "glyphs") 463, Value.str (Str.ofString "Buffer.glyphs") 464, Value.str (Str.ofString "/claim/cut.py") 465, Value.int 95 0, Value.int 1 0, Value.int 0 0, Value.int 0 0, Value.int 3 0, Value.ref 195, Value.bool true, Value.int 181 0, Value.ref 196, Value.none, Value.none, Value.none, Value.ref 197, Value.int 466 0, Value.int 95 0, Value.str (Str.ofString "/claim/cut.py") 467] }) ::
  (nat_lit 199, fF (mS (nat_lit 19) (nat_lit 1)) (Str.ofString "Buffer.glyphs") 3 (Value.none) (Value.none) (Value.none) (Value.str (Str.ofString "joinedhand.buffer") 380) none (Value.ref 198) (Value.none) 0 rfl) ::
  (nat_lit 205, { cls := Value.type "code", data := Data.fields #[Value.str (Str.ofString "clusters") 469, Value.str (Str.ofString "Buffer.clusters") 470, Value.str (Str.ofString "/claim/cut.py") 471, Value.int 98 0, Value.int 1 0, Value.int 0 0, Value.int 0 0, Value.int 3 0, Value.ref 200, Value.bool true, Value.int 181 0, Value.ref 201, Value.none, Value.ref 202, Value.ref 203, Value.ref 204, Value.int 473 0, Value.int 98 0, Value.str (Str.ofString "/claim/cut.py") 474] }) ::
  (nat_lit 206, fF (mS (nat_lit 19) (nat_lit 2)) (Str.ofString "Buffer.clusters") 3 (Value.none) (Value.none) (Value.none) (Value.str (Str.ofString "joinedhand.buffer") 380) none (Value.ref 205) (Value.none) 0 rfl) ::
  (nat_lit 210, { cls := Value.type "code", data := Data.fields #[Value.str (Str.ofString "told") 476, Value.str (Str.ofString "Buffer.told") 477, Value.str (Str.ofString "/claim/cut.py") 478, Value.int 101 0, Value.int 1 0, Value.int 0 0, Value.int 0 0, Value.int 3 0, Value.ref 207, Value.bool true, Value.int 181 0, Value.ref 208, Value.none, Value.none, Value.none, Value.ref 209, Value.int 479 0, Value.int 101 0, Value.str (Str.ofString "/claim/cut.py") 480] }) ::
  (nat_lit 211, fF (mS (nat_lit 19) (nat_lit 3)) (Str.ofString "Buffer.told") 3 (Value.none) (Value.none) (Value.none) (Value.str (Str.ofString "joinedhand.buffer") 380) none (Value.ref 210) (Value.none) 0 rfl) ::
  (nat_lit 217, { cls := Value.type "code", data := Data.fields #[Value.str (Str.ofString "next_lig") 482, Value.str (Str.ofString "Buffer.next_lig") 483, Value.str (Str.ofString "/claim/cut.py") 484, Value.int 104 0, Value.int 1 0, Value.int 0 0, Value.int 0 0, Value.int 3 0, Value.ref 212, Value.bool true, Value.int 181 0, Value.ref 213, Value.none, Value.ref 214, Value.ref 215, Value.ref 216, Value.int 486 0, Value.int 104 0, Value.str (Str.ofString "/claim/cut.py") 487] }) ::
  (nat_lit 218, fF (mS (nat_lit 19) (nat_lit 4)) (Str.ofString "Buffer.next_lig") 3 (Value.none) (Value.none) (Value.none) (Value.str (Str.ofString "joinedhand.buffer") 380) none (Value.ref 217) (Value.none) 0 rfl) ::
  (nat_lit 224, { cls := Value.type "code", data := Data.fields #[Value.str (Str.ofString "next_split") 489, Value.str (Str.ofString "Buffer.next_split") 490, Value.str (Str.ofString "/claim/cut.py") 491, Value.int 107 0, Value.int 1 0, Value.int 0 0, Value.int 0 0, Value.int 3 0, Value.ref 219, Value.bool true, Value.int 181 0, Value.ref 220, Value.none, Value.ref 221, Value.ref 222, Value.ref 223, Value.int 493 0, Value.int 107 0, Value.str (Str.ofString "/claim/cut.py") 494] }) ::
  (nat_lit 225, fF (mS (nat_lit 19) (nat_lit 5)) (Str.ofString "Buffer.next_split") 3 (Value.none) (Value.none) (Value.none) (Value.str (Str.ofString "joinedhand.buffer") 380) none (Value.ref 224) (Value.none) 0 rfl) ::
  (nat_lit 227, { cls := Value.type "dict", data := Data.dict #[{ hash := PyData.keyHash P (Str.ofString "__module__"), key := Value.str (Str.ofString "__module__") 449, val := Value.str (Str.ofString "joinedhand.buffer") 380 }, { hash := PyData.keyHash P (Str.ofString "__firstlineno__"), key := Value.str (Str.ofString "__firstlineno__") 453, val := Value.int 87 452 }, { hash := PyData.keyHash P (Str.ofString "__init__"), key := Value.str (Str.ofString "__init__") 462, val := Value.ref 194 }, { hash := PyData.keyHash P (Str.ofString "glyphs"), key := Value.str (Str.ofString "glyphs") 468, val := Value.ref 199 }, { hash := PyData.keyHash P (Str.ofString "clusters"), key := Value.str (Str.ofString "clusters") 475, val := Value.ref 206 }, { hash := PyData.keyHash P (Str.ofString "told"), key := Value.str (Str.ofString "told") 481, val := Value.ref 211 }, { hash := PyData.keyHash P (Str.ofString "next_lig"), key := Value.str (Str.ofString "next_lig") 488, val := Value.ref 218 }, { hash := PyData.keyHash P (Str.ofString "next_split"), key := Value.str (Str.ofString "next_split") 495, val := Value.ref 225 }, { hash := PyData.keyHash P (Str.ofString "__static_attributes__"), key := Value.str (Str.ofString "__static_attributes__") 500, val := Value.ref 226 }, { hash := PyData.keyHash P (Str.ofString "__dict__"), key := Value.str (Str.ofString "__dict__") 502, val := Value.ref 229 }, { hash := PyData.keyHash P (Str.ofString "__weakref__"), key := Value.str (Str.ofString "__weakref__") 504, val := Value.ref 230 }, { hash := PyData.keyHash P (Str.ofString "__doc__"), key := Value.str (Str.ofString "__doc__") 505, val := Value.none }] 4 }) ::
  (nat_lit 228, { cls := Value.type "type", data := Data.cls { name := Str.ofString "Buffer", bases := [Value.type "object"], mro := [Value.ref 228, Value.type "object"], ns := 227, qualname := Str.ofString "Buffer" }, slots := #[none, none, some (Value.str (Str.ofString "Buffer") 442), some (Value.str (Str.ofString "Buffer") 450), some (Value.builtin "object.__new__"), some (Value.bool true)] }) ::
  (nat_lit 236, { cls := Value.type "code", data := Data.fields #[Value.str (Str.ofString "hang") 508, Value.str (Str.ofString "hang") 509, Value.str (Str.ofString "/claim/cut.py") 510, Value.int 109 0, Value.int 3 0, Value.int 0 0, Value.int 0 0, Value.int 3 0, Value.ref 233, Value.bool true, Value.int 181 0, Value.ref 234, Value.none, Value.none, Value.none, Value.ref 235, Value.int 511 0, Value.int 109 0, Value.str (Str.ofString "/claim/cut.py") 512] }) ::
  (nat_lit 237, fF (tS (nat_lit 20)) (Str.ofString "hang") 3 (Value.none) (Value.none) (Value.none) (Value.str (Str.ofString "joinedhand.buffer") 380) none (Value.ref 236) (Value.none) 0 rfl) ::
  (nat_lit 238, { cls := Value.type "tuple", data := Data.seq #[Value.str (Str.ofString "zwj") 516, Value.str (Str.ofString "zwnj") 517, Value.str (Str.ofString "hidden") 518] }) ::
  (nat_lit 244, { cls := Value.type "code", data := Data.fields #[Value.str (Str.ofString "neighbour") 520, Value.str (Str.ofString "neighbour") 521, Value.str (Str.ofString "/claim/cut.py") 522, Value.int 119 0, Value.int 3 0, Value.int 0 0, Value.int 0 0, Value.int 3 0, Value.ref 239, Value.bool true, Value.int 181 0, Value.ref 240, Value.none, Value.ref 241, Value.ref 242, Value.ref 243, Value.int 527 0, Value.int 119 0, Value.str (Str.ofString "/claim/cut.py") 528] }) ::
  (nat_lit 245, fF (tS (nat_lit 23)) (Str.ofString "neighbour") 3 (Value.none) (Value.none) (Value.none) (Value.str (Str.ofString "joinedhand.matching") 514) none (Value.ref 244) (Value.none) 0 rfl) ::
  (nat_lit 251, { cls := Value.type "code", data := Data.fields #[Value.str (Str.ofString "before_at") 530, Value.str (Str.ofString "before_at") 531, Value.str (Str.ofString "/claim/cut.py") 532, Value.int 126 0, Value.int 2 0, Value.int 0 0, Value.int 0 0, Value.int 3 0, Value.ref 246, Value.bool true, Value.int 181 0, Value.ref 247, Value.none, Value.ref 248, Value.ref 249, Value.ref 250, Value.int 535 0, Value.int 126 0, Value.str (Str.ofString "/claim/cut.py") 536] }) ::
  (nat_lit 252, fF (tS (nat_lit 24)) (Str.ofString "before_at") 3 (Value.none) (Value.none) (Value.none) (Value.str (Str.ofString "joinedhand.matching") 514) none (Value.ref 251) (Value.none) 0 rfl) ::
  (nat_lit 258, { cls := Value.type "code", data := Data.fields #[Value.str (Str.ofString "loosen") 540, Value.str (Str.ofString "loosen") 541, Value.str (Str.ofString "/claim/cut.py") 542, Value.int 129 0, Value.int 1 0, Value.int 0 0, Value.int 0 0, Value.int 3 0, Value.ref 253, Value.bool true, Value.int 181 0, Value.ref 254, Value.none, Value.ref 255, Value.ref 256, Value.ref 257, Value.int 544 0, Value.int 129 0, Value.str (Str.ofString "/claim/cut.py") 545] }) ::
  (nat_lit 259, fF (tS (nat_lit 26)) (Str.ofString "loosen") 3 (Value.none) (Value.none) (Value.none) (Value.str (Str.ofString "joinedhand.cursive") 538) none (Value.ref 258) (Value.none) 0 rfl) ::
  (nat_lit 265, { cls := Value.type "code", data := Data.fields #[Value.str (Str.ofString "break_ring") 547, Value.str (Str.ofString "break_ring") 548, Value.str (Str.ofString "/claim/cut.py") 549, Value.int 132 0, Value.int 3 0, Value.int 0 0, Value.int 0 0, Value.int 3 0, Value.ref 260, Value.bool true, Value.int 181 0, Value.ref 261, Value.none, Value.ref 262, Value.ref 263, Value.ref 264, Value.int 555 0, Value.int 132 0, Value.str (Str.ofString "/claim/cut.py") 556] }) ::
  (nat_lit 266, fF (tS (nat_lit 27)) (Str.ofString "break_ring") 3 (Value.none) (Value.none) (Value.none) (Value.str (Str.ofString "joinedhand.cursive") 538) none (Value.ref 265) (Value.none) 0 rfl) ::
  (nat_lit 270, { cls := Value.type "code", data := Data.fields #[Value.str (Str.ofString "classes_of") 562, Value.str (Str.ofString "classes_of") 563, Value.str (Str.ofString "/claim/cut.py") 564, Value.int 144 0, Value.int 1 0, Value.int 0 0, Value.int 0 0, Value.int 3 0, Value.ref 267, Value.bool true, Value.int 181 0, Value.ref 268, Value.none, Value.none, Value.none, Value.ref 269, Value.int 565 0, Value.int 144 0, Value.str (Str.ofString "/claim/cut.py") 566] }) ::
  (nat_lit 271, fF (tS (nat_lit 30)) (Str.ofString "classes_of") 3 (Value.none) (Value.none) (Value.none) (Value.str (Str.ofString "joinedhand.marks") 558) none (Value.ref 270) (Value.none) 0 rfl) ::
  (nat_lit 275, { cls := Value.type "code", data := Data.fields #[Value.str (Str.ofString "told_row") 568, Value.str (Str.ofString "told_row") 569, Value.str (Str.ofString "/claim/cut.py") 570, Value.int 146 0, Value.int 2 0, Value.int 0 0, Value.int 0 0, Value.int 3 0, Value.ref 272, Value.bool true, Value.int 181 0, Value.ref 273, Value.none, Value.none, Value.none, Value.ref 274, Value.int 571 0, Value.int 146 0, Value.str (Str.ofString "/claim/cut.py") 572] }) ::
  (nat_lit 276, fF (tS (nat_lit 31)) (Str.ofString "told_row") 3 (Value.none) (Value.none) (Value.none) (Value.str (Str.ofString "joinedhand.marks") 558) none (Value.ref 275) (Value.none) 0 rfl) ::
  (nat_lit 280, { cls := Value.type "code", data := Data.fields #[Value.str (Str.ofString "has_anchor") 574, Value.str (Str.ofString "has_anchor") 575, Value.str (Str.ofString "/claim/cut.py") 576, Value.int 148 0, Value.int 1 0, Value.int 0 0, Value.int 0 0, Value.int 3 0, Value.ref 277, Value.bool true, Value.int 181 0, Value.ref 278, Value.none, Value.none, Value.none, Value.ref 279, Value.int 577 0, Value.int 148 0, Value.str (Str.ofString "/claim/cut.py") 578] }) ::
  (nat_lit 281, fF (tS (nat_lit 32)) (Str.ofString "has_anchor") 3 (Value.none) (Value.none) (Value.none) (Value.str (Str.ofString "joinedhand.marks") 558) none (Value.ref 280) (Value.none) 0 rfl) ::
  (nat_lit 287, { cls := Value.type "code", data := Data.fields #[Value.str (Str.ofString "told_by_glyph") 580, Value.str (Str.ofString "told_by_glyph") 581, Value.str (Str.ofString "/claim/cut.py") 582, Value.int 150 0, Value.int 2 0, Value.int 0 0, Value.int 0 0, Value.int 3 0, Value.ref 282, Value.bool true, Value.int 181 0, Value.ref 283, Value.none, Value.ref 284, Value.ref 285, Value.ref 286, Value.int 588 0, Value.int 150 0, Value.str (Str.ofString "/claim/cut.py") 589] }) ::
  (nat_lit 288, fF (tS (nat_lit 33)) (Str.ofString "told_by_glyph") 3 (Value.none) (Value.none) (Value.none) (Value.str (Str.ofString "joinedhand.marks") 558) none (Value.ref 287) (Value.none) 0 rfl) ::
  (nat_lit 301, { cls := Value.type "code", data := Data.fields #[Value.str (Str.ofString "__init__") 603, Value.str (Str.ofString "MarkBase.__init__") 604, Value.str (Str.ofString "/claim/cut.py") 605, Value.int 159 0, Value.int 3 0, Value.int 0 0, Value.int 0 0, Value.int 3 0, Value.ref 296, Value.bool true, Value.int 181 0, Value.ref 297, Value.none, Value.ref 298, Value.ref 299, Value.ref 300, Value.int 609 0, Value.int 159 0, Value.str (Str.ofString "/claim/cut.py") 610] }) ::
  (nat_lit 302, fF (mS (nat_lit 34) (nat_lit 0)) (Str.ofString "MarkBase.__init__") 3 (Value.none) (Value.none) (Value.none) (Value.str (Str.ofString "joinedhand.marks") 558) none (Value.ref 301) (Value.none) 0 rfl) ::
  (nat_lit 308, { cls := Value.type "code", data := Data.fields #[Value.str (Str.ofString "told") 612, Value.str (Str.ofString "MarkBase.told") 613, Value.str (Str.ofString "/claim/cut.py") 614, Value.int 163 0, Value.int 1 0, Value.int 0 0, Value.int 0 0, Value.int 3 0, Value.ref 303, Value.bool true, Value.int 181 0, Value.ref 304, Value.none, Value.ref 305, Value.ref 306, Value.ref 307, Value.int 616 0, Value.int 163 0, Value.str (Str.ofString "/claim/cut.py") 617] }) ::
  (nat_lit 309, fF (mS (nat_lit 34) (nat_lit 1)) (Str.ofString "MarkBase.told") 3 (Value.none) (Value.none) (Value.none) (Value.str (Str.ofString "joinedhand.marks") 558) none (Value.ref 308) (Value.none) 0 rfl) ::
  (nat_lit 311, { cls := Value.type "dict", data := Data.dict #[{ hash := PyData.keyHash P (Str.ofString "__module__"), key := Value.str (Str.ofString "__module__") 598, val := Value.str (Str.ofString "joinedhand.marks") 558 }, { hash := PyData.keyHash P (Str.ofString "__firstlineno__"), key := Value.str (Str.ofString "__firstlineno__") 602, val := Value.int 157 601 }, { hash := PyData.keyHash P (Str.ofString "__init__"), key := Value.str (Str.ofString "__init__") 611, val := Value.ref 302 }, { hash := PyData.keyHash P (Str.ofString "told"), key := Value.str (Str.ofString "told") 618, val := Value.ref 309 }, { hash := PyData.keyHash P (Str.ofString "__static_attributes__"), key := Value.str (Str.ofString "__static_attributes__") 621, val := Value.ref 310 }, { hash := PyData.keyHash P (Str.ofString "__dict__"), key := Value.str (Str.ofString "__dict__") 623, val := Value.ref 313 }, { hash := PyData.keyHash P (Str.ofString "__weakref__"), key := Value.str (Str.ofString "__weakref__") 625, val := Value.ref 314 }, { hash := PyData.keyHash P (Str.ofString "__doc__"), key := Value.str (Str.ofString "__doc__") 626, val := Value.none }] 4 }) ::
  (nat_lit 312, { cls := Value.type "type", data := Data.cls { name := Str.ofString "MarkBase", bases := [Value.type "object"], mro := [Value.ref 312, Value.type "object"], ns := 311, qualname := Str.ofString "MarkBase" }, slots := #[none, none, some (Value.str (Str.ofString "MarkBase") 591), some (Value.str (Str.ofString "MarkBase") 599), some (Value.builtin "object.__new__"), some (Value.bool true)] }) ::
  (nat_lit 329, { cls := Value.type "code", data := Data.fields #[Value.str (Str.ofString "__init__") 641, Value.str (Str.ofString "MarkMark.__init__") 642, Value.str (Str.ofString "/claim/cut.py") 643, Value.int 167 0, Value.int 3 0, Value.int 0 0, Value.int 0 0, Value.int 3 0, Value.ref 324, Value.bool true, Value.int 181 0, Value.ref 325, Value.none, Value.ref 326, Value.ref 327, Value.ref 328, Value.int 647 0, Value.int 167 0, Value.str (Str.ofString "/claim/cut.py") 648] }) ::
  (nat_lit 330, fF (mS (nat_lit 35) (nat_lit 0)) (Str.ofString "MarkMark.__init__") 3 (Value.none) (Value.none) (Value.none) (Value.str (Str.ofString "joinedhand.marks") 558) none (Value.ref 329) (Value.none) 0 rfl) ::
  (nat_lit 336, { cls := Value.type "code", data := Data.fields #[Value.str (Str.ofString "told") 650, Value.str (Str.ofString "MarkMark.told") 651, Value.str (Str.ofString "/claim/cut.py") 652, Value.int 171 0, Value.int 1 0, Value.int 0 0, Value.int 0 0, Value.int 3 0, Value.ref 331, Value.bool true, Value.int 181 0, Value.ref 332, Value.none, Value.ref 333, Value.ref 334, Value.ref 335, Value.int 654 0, Value.int 171 0, Value.str (Str.ofString "/claim/cut.py") 655] }) ::
  (nat_lit 337, fF (mS (nat_lit 35) (nat_lit 1)) (Str.ofString "MarkMark.told") 3 (Value.none) (Value.none) (Value.none) (Value.str (Str.ofString "joinedhand.marks") 558) none (Value.ref 336) (Value.none) 0 rfl) ::
  (nat_lit 339, { cls := Value.type "dict", data := Data.dict #[{ hash := PyData.keyHash P (Str.ofString "__module__"), key := Value.str (Str.ofString "__module__") 636, val := Value.str (Str.ofString "joinedhand.marks") 558 }, { hash := PyData.keyHash P (Str.ofString "__firstlineno__"), key := Value.str (Str.ofString "__firstlineno__") 640, val := Value.int 165 639 }, { hash := PyData.keyHash P (Str.ofString "__init__"), key := Value.str (Str.ofString "__init__") 649, val := Value.ref 330 }, { hash := PyData.keyHash P (Str.ofString "told"), key := Value.str (Str.ofString "told") 656, val := Value.ref 337 }, { hash := PyData.keyHash P (Str.ofString "__static_attributes__"), key := Value.str (Str.ofString "__static_attributes__") 659, val := Value.ref 338 }, { hash := PyData.keyHash P (Str.ofString "__dict__"), key := Value.str (Str.ofString "__dict__") 661, val := Value.ref 341 }, { hash := PyData.keyHash P (Str.ofString "__weakref__"), key := Value.str (Str.ofString "__weakref__") 663, val := Value.ref 342 }, { hash := PyData.keyHash P (Str.ofString "__doc__"), key := Value.str (Str.ofString "__doc__") 664, val := Value.none }] 4 }) ::
  (nat_lit 340, { cls := Value.type "type", data := Data.cls { name := Str.ofString "MarkMark", bases := [Value.type "object"], mro := [Value.ref 340, Value.type "object"], ns := 339, qualname := Str.ofString "MarkMark" }, slots := #[none, none, some (Value.str (Str.ofString "MarkMark") 629), some (Value.str (Str.ofString "MarkMark") 637), some (Value.builtin "object.__new__"), some (Value.bool true)] }) ::
  (nat_lit 350, { cls := Value.type "code", data := Data.fields #[Value.str (Str.ofString "scene_with") 667, Value.str (Str.ofString "scene_with") 668, Value.str (Str.ofString "/claim/cut.py") 669, Value.int 173 0, Value.int 3 0, Value.int 0 0, Value.int 0 0, Value.int 3 0, Value.ref 345, Value.bool true, Value.int 181 0, Value.ref 346, Value.none, Value.ref 347, Value.ref 348, Value.ref 349, Value.int 674 0, Value.int 173 0, Value.str (Str.ofString "/claim/cut.py") 675] }) ::
  (nat_lit 351, fF (tS (nat_lit 36)) (Str.ofString "scene_with") 3 (Value.none) (Value.none) (Value.none) (Value.str (Str.ofString "joinedhand.marks") 558) none (Value.ref 350) (Value.none) 0 rfl) ::
  (nat_lit 357, { cls := Value.type "code", data := Data.fields #[Value.str (Str.ofString "is_mark_at") 677, Value.str (Str.ofString "is_mark_at") 678, Value.str (Str.ofString "/claim/cut.py") 679, Value.int 176 0, Value.int 2 0, Value.int 0 0, Value.int 0 0, Value.int 3 0, Value.ref 352, Value.bool true, Value.int 181 0, Value.ref 353, Value.none, Value.ref 354, Value.ref 355, Value.ref 356, Value.int 682 0, Value.int 176 0, Value.str (Str.ofString "/claim/cut.py") 683] }) ::
  (nat_lit 358, fF (tS (nat_lit 37)) (Str.ofString "is_mark_at") 3 (Value.none) (Value.none) (Value.none) (Value.str (Str.ofString "joinedhand.marks") 558) none (Value.ref 357) (Value.none) 0 rfl) ::
  (nat_lit 364, { cls := Value.type "code", data := Data.fields #[Value.str (Str.ofString "is_later_part") 685, Value.str (Str.ofString "is_later_part") 686, Value.str (Str.ofString "/claim/cut.py") 687, Value.int 178 0, Value.int 2 0, Value.int 0 0, Value.int 0 0, Value.int 3 0, Value.ref 359, Value.bool true, Value.int 181 0, Value.ref 360, Value.none, Value.ref 361, Value.ref 362, Value.ref 363, Value.int 692 0, Value.int 178 0, Value.str (Str.ofString "/claim/cut.py") 693] }) ::
  (nat_lit 365, fF (tS (nat_lit 38)) (Str.ofString "is_later_part") 3 (Value.none) (Value.none) (Value.none) (Value.str (Str.ofString "joinedhand.marks") 558) none (Value.ref 364) (Value.none) 0 rfl) ::
  (nat_lit 371, { cls := Value.type "code", data := Data.fields #[Value.str (Str.ofString "base_ahead") 695, Value.str (Str.ofString "base_ahead") 696, Value.str (Str.ofString "/claim/cut.py") 697, Value.int 184 0, Value.int 2 0, Value.int 0 0, Value.int 0 0, Value.int 3 0, Value.ref 366, Value.bool true, Value.int 181 0, Value.ref 367, Value.none, Value.ref 368, Value.ref 369, Value.ref 370, Value.int 702 0, Value.int 184 0, Value.str (Str.ofString "/claim/cut.py") 703] }) ::
  (nat_lit 372, fF (tS (nat_lit 39)) (Str.ofString "base_ahead") 3 (Value.none) (Value.none) (Value.none) (Value.str (Str.ofString "joinedhand.marks") 558) none (Value.ref 371) (Value.none) 0 rfl) ::
  (nat_lit 378, { cls := Value.type "code", data := Data.fields #[Value.str (Str.ofString "set_on") 705, Value.str (Str.ofString "set_on") 706, Value.str (Str.ofString "/claim/cut.py") 707, Value.int 190 0, Value.int 5 0, Value.int 0 0, Value.int 0 0, Value.int 3 0, Value.ref 373, Value.bool true, Value.int 181 0, Value.ref 374, Value.none, Value.ref 375, Value.ref 376, Value.ref 377, Value.int 717 0, Value.int 190 0, Value.str (Str.ofString "/claim/cut.py") 718] }) ::
  (nat_lit 379, fF (tS (nat_lit 40)) (Str.ofString "set_on") 3 (Value.none) (Value.none) (Value.none) (Value.str (Str.ofString "joinedhand.marks") 558) none (Value.ref 378) (Value.none) 0 rfl) ::
  (nat_lit 385, { cls := Value.type "code", data := Data.fields #[Value.str (Str.ofString "apply_base") 720, Value.str (Str.ofString "apply_base") 721, Value.str (Str.ofString "/claim/cut.py") 722, Value.int 202 0, Value.int 3 0, Value.int 0 0, Value.int 0 0, Value.int 3 0, Value.ref 380, Value.bool true, Value.int 181 0, Value.ref 381, Value.none, Value.ref 382, Value.ref 383, Value.ref 384, Value.int 727 0, Value.int 202 0, Value.str (Str.ofString "/claim/cut.py") 728] }) ::
  (nat_lit 386, fF (tS (nat_lit 41)) (Str.ofString "apply_base") 3 (Value.none) (Value.none) (Value.none) (Value.str (Str.ofString "joinedhand.marks") 558) none (Value.ref 385) (Value.none) 0 rfl) ::
  (nat_lit 392, { cls := Value.type "code", data := Data.fields #[Value.str (Str.ofString "are_of_one") 730, Value.str (Str.ofString "are_of_one") 731, Value.str (Str.ofString "/claim/cut.py") 732, Value.int 209 0, Value.int 2 0, Value.int 0 0, Value.int 0 0, Value.int 3 0, Value.ref 387, Value.bool true, Value.int 181 0, Value.ref 388, Value.none, Value.ref 389, Value.ref 390, Value.ref 391, Value.int 735 0, Value.int 209 0, Value.str (Str.ofString "/claim/cut.py") 736] }) ::
  (nat_lit 393, fF (tS (nat_lit 42)) (Str.ofString "are_of_one") 3 (Value.none) (Value.none) (Value.none) (Value.str (Str.ofString "joinedhand.marks") 558) none (Value.ref 392) (Value.none) 0 rfl) ::
  (nat_lit 399, { cls := Value.type "code", data := Data.fields #[Value.str (Str.ofString "apply_mark") 738, Value.str (Str.ofString "apply_mark") 739, Value.str (Str.ofString "/claim/cut.py") 740, Value.int 213 0, Value.int 3 0, Value.int 0 0, Value.int 0 0, Value.int 3 0, Value.ref 394, Value.bool true, Value.int 181 0, Value.ref 395, Value.none, Value.ref 396, Value.ref 397, Value.ref 398, Value.int 747 0, Value.int 213 0, Value.str (Str.ofString "/claim/cut.py") 748] }) ::
  (nat_lit 400, fF (tS (nat_lit 43)) (Str.ofString "apply_mark") 3 (Value.none) (Value.none) (Value.none) (Value.str (Str.ofString "joinedhand.marks") 558) none (Value.ref 399) (Value.none) 0 rfl) ::
  (nat_lit 406, { cls := Value.type "code", data := Data.fields #[Value.str (Str.ofString "chain_from") 750, Value.str (Str.ofString "chain_from") 751, Value.str (Str.ofString "/claim/cut.py") 752, Value.int 224 0, Value.int 2 0, Value.int 0 0, Value.int 0 0, Value.int 3 0, Value.ref 401, Value.bool true, Value.int 181 0, Value.ref 402, Value.none, Value.ref 403, Value.ref 404, Value.ref 405, Value.int 758 0, Value.int 224 0, Value.str (Str.ofString "/claim/cut.py") 759] }) ::
  (nat_lit 407, fF (tS (nat_lit 44)) (Str.ofString "chain_from") 3 (Value.none) (Value.none) (Value.none) (Value.str (Str.ofString "joinedhand.marks") 558) none (Value.ref 406) (Value.none) 0 rfl) ::
  (nat_lit 413, { cls := Value.type "code", data := Data.fields #[Value.str (Str.ofString "add_place") 761, Value.str (Str.ofString "add_place") 762, Value.str (Str.ofString "/claim/cut.py") 763, Value.int 233 0, Value.int 2 0, Value.int 0 0, Value.int 0 0, Value.int 3 0, Value.ref 408, Value.bool true, Value.int 181 0, Value.ref 409, Value.none, Value.ref 410, Value.ref 411, Value.ref 412, Value.int 766 0, Value.int 233 0, Value.str (Str.ofString "/claim/cut.py") 767] }) ::
  (nat_lit 414, fF (tS (nat_lit 45)) (Str.ofString "add_place") 3 (Value.none) (Value.none) (Value.none) (Value.str (Str.ofString "joinedhand.marks") 558) none (Value.ref 413) (Value.none) 0 rfl) ::
  (nat_lit 420, { cls := Value.type "code", data := Data.fields #[Value.str (Str.ofString "take_advances") 769, Value.str (Str.ofString "take_advances") 770, Value.str (Str.ofString "/claim/cut.py") 771, Value.int 237 0, Value.int 3 0, Value.int 0 0, Value.int 0 0, Value.int 3 0, Value.ref 415, Value.bool true, Value.int 181 0, Value.ref 416, Value.none, Value.ref 417, Value.ref 418, Value.ref 419, Value.int 776 0, Value.int 237 0, Value.str (Str.ofString "/claim/cut.py") 777] }) ::
  (nat_lit 421, fF (tS (nat_lit 46)) (Str.ofString "take_advances") 3 (Value.none) (Value.none) (Value.none) (Value.str (Str.ofString "joinedhand.marks") 558) none (Value.ref 420) (Value.none) 0 rfl) ::
  (nat_lit 427, { cls := Value.type "code", data := Data.fields #[Value.str (Str.ofString "settle_one") 779, Value.str (Str.ofString "settle_one") 780, Value.str (Str.ofString "/claim/cut.py") 781, Value.int 241 0, Value.int 2 0, Value.int 0 0, Value.int 0 0, Value.int 3 0, Value.ref 422, Value.bool true, Value.int 181 0, Value.ref 423, Value.none, Value.ref 424, Value.ref 425, Value.ref 426, Value.int 787 0, Value.int 241 0, Value.str (Str.ofString "/claim/cut.py") 788] }) ::
  (nat_lit 428, fF (tS (nat_lit 47)) (Str.ofString "settle_one") 3 (Value.none) (Value.none) (Value.none) (Value.str (Str.ofString "joinedhand.marks") 558) none (Value.ref 427) (Value.none) 0 rfl) ::
  (nat_lit 434, { cls := Value.type "code", data := Data.fields #[Value.str (Str.ofString "settle") 790, Value.str (Str.ofString "settle") 791, Value.str (Str.ofString "/claim/cut.py") 792, Value.int 252 0, Value.int 1 0, Value.int 0 0, Value.int 0 0, Value.int 3 0, Value.ref 429, Value.bool true, Value.int 181 0, Value.ref 430, Value.none, Value.ref 431, Value.ref 432, Value.ref 433, Value.int 797 0, Value.int 252 0, Value.str (Str.ofString "/claim/cut.py") 798] }) ::
  (nat_lit 435, fF (tS (nat_lit 48)) (Str.ofString "settle") 3 (Value.none) (Value.none) (Value.none) (Value.str (Str.ofString "joinedhand.marks") 558) none (Value.ref 434) (Value.none) 0 rfl) ::
  (nat_lit 448, { cls := Value.type "code", data := Data.fields #[Value.str (Str.ofString "__init__") 814, Value.str (Str.ofString "ClassDef.__init__") 815, Value.str (Str.ofString "/claim/cut.py") 816, Value.int 261 0, Value.int 2 0, Value.int 0 0, Value.int 0 0, Value.int 3 0, Value.ref 443, Value.bool true, Value.int 181 0, Value.ref 444, Value.none, Value.ref 445, Value.ref 446, Value.ref 447, Value.int 819 0, Value.int 261 0, Value.str (Str.ofString "/claim/cut.py") 820] }) ::
  (nat_lit 449, fF (mS (nat_lit 50) (nat_lit 0)) (Str.ofString "ClassDef.__init__") 3 (Value.none) (Value.none) (Value.none) (Value.str (Str.ofString "joinedhand.classdefs") 800) none (Value.ref 448) (Value.none) 0 rfl) ::
  (nat_lit 455, { cls := Value.type "code", data := Data.fields #[Value.str (Str.ofString "class_of") 822, Value.str (Str.ofString "ClassDef.class_of") 823, Value.str (Str.ofString "/claim/cut.py") 824, Value.int 264 0, Value.int 2 0, Value.int 0 0, Value.int 0 0, Value.int 3 0, Value.ref 450, Value.bool true, Value.int 181 0, Value.ref 451, Value.none, Value.ref 452, Value.ref 453, Value.ref 454, Value.int 827 0, Value.int 264 0, Value.str (Str.ofString "/claim/cut.py") 828] }) ::
  (nat_lit 456, fF (mS (nat_lit 50) (nat_lit 1)) (Str.ofString "ClassDef.class_of") 3 (Value.none) (Value.none) (Value.none) (Value.str (Str.ofString "joinedhand.classdefs") 800) none (Value.ref 455) (Value.none) 0 rfl) ::
  (nat_lit 462, { cls := Value.type "code", data := Data.fields #[Value.str (Str.ofString "glyphs_of") 830, Value.str (Str.ofString "ClassDef.glyphs_of") 831, Value.str (Str.ofString "/claim/cut.py") 832, Value.int 267 0, Value.int 2 0, Value.int 0 0, Value.int 0 0, Value.int 3 0, Value.ref 457, Value.bool true, Value.int 181 0, Value.ref 458, Value.none, Value.ref 459, Value.ref 460, Value.ref 461, Value.int 835 0, Value.int 267 0, Value.str (Str.ofString "/claim/cut.py") 836] }) ::
  (nat_lit 463, fF (mS (nat_lit 50) (nat_lit 2)) (Str.ofString "ClassDef.glyphs_of") 3 (Value.none) (Value.none) (Value.none) (Value.str (Str.ofString "joinedhand.classdefs") 800) none (Value.ref 462) (Value.none) 0 rfl) ::
  (nat_lit 469, { cls := Value.type "code", data := Data.fields #[Value.str (Str.ofString "count") 838, Value.str (Str.ofString "ClassDef.count") 839, Value.str (Str.ofString "/claim/cut.py") 840, Value.int 270 0, Value.int 1 0, Value.int 0 0, Value.int 0 0, Value.int 3 0, Value.ref 464, Value.bool true, Value.int 181 0, Value.ref 465, Value.none, Value.ref 466, Value.ref 467, Value.ref 468, Value.int 844 0, Value.int 270 0, Value.str (Str.ofString "/claim/cut.py") 845] }) ::
  (nat_lit 470, fF (mS (nat_lit 50) (nat_lit 3)) (Str.ofString "ClassDef.count") 3 (Value.none) (Value.none) (Value.none) (Value.str (Str.ofString "joinedhand.classdefs") 800) none (Value.ref 469) (Value.none) 0 rfl) ::
  (nat_lit 474, { cls := Value.type "code", data := Data.fields #[Value.str (Str.ofString "told") 847, Value.str (Str.ofString "ClassDef.told") 848, Value.str (Str.ofString "/claim/cut.py") 849, Value.int 276 0, Value.int 1 0, Value.int 0 0, Value.int 0 0, Value.int 3 0, Value.ref 471, Value.bool true, Value.int 181 0, Value.ref 472, Value.none, Value.none, Value.none, Value.ref 473, Value.int 850 0, Value.int 276 0, Value.str (Str.ofString "/claim/cut.py") 851] }) ::
  (nat_lit 475, fF (mS (nat_lit 50) (nat_lit 4)) (Str.ofString "ClassDef.told") 3 (Value.none) (Value.none) (Value.none) (Value.str (Str.ofString "joinedhand.classdefs") 800) none (Value.ref 474) (Value.none) 0 rfl) ::
  (nat_lit 477, { cls := Value.type "dict", data := Data.dict #[{ hash := PyData.keyHash P (Str.ofString "__module__"), key := Value.str (Str.ofString "__module__") 809, val := Value.str (Str.ofString "joinedhand.classdefs") 800 }, { hash := PyData.keyHash P (Str.ofString "__firstlineno__"), key := Value.str (Str.ofString "__firstlineno__") 813, val := Value.int 259 812 }, { hash := PyData.keyHash P (Str.ofString "__init__"), key := Value.str (Str.ofString "__init__") 821, val := Value.ref 449 }, { hash := PyData.keyHash P (Str.ofString "class_of"), key := Value.str (Str.ofString "class_of") 829, val := Value.ref 456 }, { hash := PyData.keyHash P (Str.ofString "glyphs_of"), key := Value.str (Str.ofString "glyphs_of") 837, val := Value.ref 463 }, { hash := PyData.keyHash P (Str.ofString "count"), key := Value.str (Str.ofString "count") 846, val := Value.ref 470 }, { hash := PyData.keyHash P (Str.ofString "told"), key := Value.str (Str.ofString "told") 852, val := Value.ref 475 }, { hash := PyData.keyHash P (Str.ofString "__static_attributes__"), key := Value.str (Str.ofString "__static_attributes__") 854, val := Value.ref 476 }, { hash := PyData.keyHash P (Str.ofString "__dict__"), key := Value.str (Str.ofString "__dict__") 856, val := Value.ref 479 }, { hash := PyData.keyHash P (Str.ofString "__weakref__"), key := Value.str (Str.ofString "__weakref__") 858, val := Value.ref 480 }, { hash := PyData.keyHash P (Str.ofString "__doc__"), key := Value.str (Str.ofString "__doc__") 859, val := Value.none }] 4 }) ::
  (nat_lit 478, { cls := Value.type "type", data := Data.cls { name := Str.ofString "ClassDef", bases := [Value.type "object"], mro := [Value.ref 478, Value.type "object"], ns := 477, qualname := Str.ofString "ClassDef" }, slots := #[none, none, some (Value.str (Str.ofString "ClassDef") 802), some (Value.str (Str.ofString "ClassDef") 810), some (Value.builtin "object.__new__"), some (Value.bool true)] }) ::
  (nat_lit 490, { cls := Value.type "tuple", data := Data.seq #[Value.none, Value.none] }) ::
  (nat_lit 496, { cls := Value.type "code", data := Data.fields #[Value.str (Str.ofString "__init__") 882, Value.str (Str.ofString "Gdef.__init__") 883, Value.str (Str.ofString "/claim/cut.py") 884, Value.int 284 0, Value.int 6 0, Value.int 0 0, Value.int 0 0, Value.int 3 0, Value.ref 491, Value.bool true, Value.int 181 0, Value.ref 492, Value.none, Value.ref 493, Value.ref 494, Value.ref 495, Value.int 891 0, Value.int 284 0, Value.str (Str.ofString "/claim/cut.py") 892] }) ::
  (nat_lit 497, fF (mS (nat_lit 55) (nat_lit 0)) (Str.ofString "Gdef.__init__") 3 (Value.ref 490) (Value.none) (Value.none) (Value.str (Str.ofString "joinedhand.gdef") 862) none (Value.ref 496) (Value.none) 0 rfl) ::
  (nat_lit 503, { cls := Value.type "code", data := Data.fields #[Value.str (Str.ofString "glyph_class") 894, Value.str (Str.ofString "Gdef.glyph_class") 895, Value.str (Str.ofString "/claim/cut.py") 896, Value.int 291 0, Value.int 2 0, Value.int 0 0, Value.int 0 0, Value.int 3 0, Value.ref 498, Value.bool true, Value.int 181 0, Value.ref 499, Value.none, Value.ref 500, Value.ref 501, Value.ref 502, Value.int 900 0, Value.int 291 0, Value.str (Str.ofString "/claim/cut.py") 901] }) ::
  (nat_lit 504, fF (mS (nat_lit 55) (nat_lit 1)) (Str.ofString "Gdef.glyph_class") 3 (Value.none) (Value.none) (Value.none) (Value.str (Str.ofString "joinedhand.gdef") 862) none (Value.ref 503) (Value.none) 0 rfl) ::
  (nat_lit 510, { cls := Value.type "code", data := Data.fields #[Value.str (Str.ofString "attach_class") 903, Value.str (Str.ofString "Gdef.attach_class") 904, Value.str (Str.ofString "/claim/cut.py") 905, Value.int 295 0, Value.int 2 0, Value.int 0 0, Value.int 0 0, Value.int 3 0, Value.ref 505, Value.bool true, Value.int 181 0, Value.ref 506, Value.none, Value.ref 507, Value.ref 508, Value.ref 509, Value.int 908 0, Value.int 295 0, Value.str (Str.ofString "/claim/cut.py") 909] }) ::
  (nat_lit 511, fF (mS (nat_lit 55) (nat_lit 2)) (Str.ofString "Gdef.attach_class") 3 (Value.none) (Value.none) (Value.none) (Value.str (Str.ofString "joinedhand.gdef") 862) none (Value.ref 510) (Value.none) 0 rfl) ::
  (nat_lit 517, { cls := Value.type "code", data := Data.fields #[Value.str (Str.ofString "is_in_set") 911, Value.str (Str.ofString "Gdef.is_in_set") 912, Value.str (Str.ofString "/claim/cut.py") 913, Value.int 298 0, Value.int 3 0, Value.int 0 0, Value.int 0 0, Value.int 3 0, Value.ref 512, Value.bool true, Value.int 181 0, Value.ref 513, Value.none, Value.ref 514, Value.ref 515, Value.ref 516, Value.int 917 0, Value.int 298 0, Value.str (Str.ofString "/claim/cut.py") 918] }) ::
  (nat_lit 518, fF (mS (nat_lit 55) (nat_lit 3)) (Str.ofString "Gdef.is_in_set") 3 (Value.none) (Value.none) (Value.none) (Value.str (Str.ofString "joinedhand.gdef") 862) none (Value.ref 517) (Value.none) 0 rfl) ::
  (nat_lit 522, { cls := Value.type "code", data := Data.fields #[Value.str (Str.ofString "told") 920, Value.str (Str.ofString "Gdef.told") 921, Value.str (Str.ofString "/claim/cut.py") 922, Value.int 301 0, Value.int 1 0, Value.int 0 0, Value.int 0 0, Value.int 3 0, Value.ref 519, Value.bool true, Value.int 181 0, Value.ref 520, Value.none, Value.none, Value.none, Value.ref 521, Value.int 923 0, Value.int 301 0, Value.str (Str.ofString "/claim/cut.py") 924] }) ::
  (nat_lit 523, fF (mS (nat_lit 55) (nat_lit 4)) (Str.ofString "Gdef.told") 3 (Value.none) (Value.none) (Value.none) (Value.str (Str.ofString "joinedhand.gdef") 862) none (Value.ref 522) (Value.none) 0 rfl) ::
  (nat_lit 525, { cls := Value.type "dict", data := Data.dict #[{ hash := PyData.keyHash P (Str.ofString "__module__"), key := Value.str (Str.ofString "__module__") 877, val := Value.str (Str.ofString "joinedhand.gdef") 862 }, { hash := PyData.keyHash P (Str.ofString "__firstlineno__"), key := Value.str (Str.ofString "__firstlineno__") 881, val := Value.int 282 880 }, { hash := PyData.keyHash P (Str.ofString "__init__"), key := Value.str (Str.ofString "__init__") 893, val := Value.ref 497 }, { hash := PyData.keyHash P (Str.ofString "glyph_class"), key := Value.str (Str.ofString "glyph_class") 902, val := Value.ref 504 }, { hash := PyData.keyHash P (Str.ofString "attach_class"), key := Value.str (Str.ofString "attach_class") 910, val := Value.ref 511 }, { hash := PyData.keyHash P (Str.ofString "is_in_set"), key := Value.str (Str.ofString "is_in_set") 919, val := Value.ref 518 }, { hash := PyData.keyHash P (Str.ofString "told"), key := Value.str (Str.ofString "told") 925, val := Value.ref 523 }, { hash := PyData.keyHash P (Str.ofString "__static_attributes__"), key := Value.str (Str.ofString "__static_attributes__") 931, val := Value.ref 524 }, { hash := PyData.keyHash P (Str.ofString "__dict__"), key := Value.str (Str.ofString "__dict__") 933, val := Value.ref 527 }, { hash := PyData.keyHash P (Str.ofString "__weakref__"), key := Value.str (Str.ofString "__weakref__") 935, val := Value.ref 528 }, { hash := PyData.keyHash P (Str.ofString "__doc__"), key := Value.str (Str.ofString "__doc__") 936, val := Value.none }] 4 }) ::
  (nat_lit 526, { cls := Value.type "type", data := Data.cls { name := Str.ofString "Gdef", bases := [Value.type "object"], mro := [Value.ref 526, Value.type "object"], ns := 525, qualname := Str.ofString "Gdef" }, slots := #[none, none, some (Value.str (Str.ofString "Gdef") 870), some (Value.str (Str.ofString "Gdef") 878), some (Value.builtin "object.__new__"), some (Value.bool true)] }) ::
  (nat_lit 534, { cls := Value.type "code", data := Data.fields #[Value.str (Str.ofString "_law_pen") 941, Value.str (Str.ofString "_law_pen") 942, Value.str (Str.ofString "/claim/cut.py") 943, Value.int 306 0, Value.int 1 0, Value.int 0 0, Value.int 0 0, Value.int 3 0, Value.ref 531, Value.bool true, Value.int 181 0, Value.ref 532, Value.none, Value.none, Value.none, Value.ref 533, Value.int 944 0, Value.int 306 0, Value.str (Str.ofString "/claim/cut.py") 945] }) ::
  (nat_lit 535, fF (tS (nat_lit 57)) (Str.ofString "_law_pen") 3 (Value.none) (Value.none) (Value.none) (Value.str (Str.ofString "law_nz0117_01") 939) none (Value.ref 534) (Value.none) 0 rfl) ::
  (nat_lit 541, { cls := Value.type "code", data := Data.fields #[Value.str (Str.ofString "_law_draw") 947, Value.str (Str.ofString "_law_draw") 948, Value.str (Str.ofString "/claim/cut.py") 949, Value.int 315 0, Value.int 2 0, Value.int 0 0, Value.int 0 0, Value.int 3 0, Value.ref 536, Value.bool true, Value.int 181 0, Value.ref 537, Value.none, Value.ref 538, Value.ref 539, Value.ref 540, Value.int 954 0, Value.int 315 0, Value.str (Str.ofString "/claim/cut.py") 955] }) ::
  (nat_lit 542, fF (tS (nat_lit 58)) (Str.ofString "_law_draw") 3 (Value.none) (Value.none) (Value.none) (Value.str (Str.ofString "law_nz0117_01") 939) none (Value.ref 541) (Value.none) 0 rfl) ::
  (nat_lit 548, { cls := Value.type "code", data := Data.fields #[Value.str (Str.ofString "_law_ends") 957, Value.str (Str.ofString "_law_ends") 958, Value.str (Str.ofString "/claim/cut.py") 959, Value.int 326 0, Value.int 2 0, Value.int 0 0, Value.int 0 0, Value.int 3 0, Value.ref 543, Value.bool true, Value.int 181 0, Value.ref 544, Value.none, Value.ref 545, Value.ref 546, Value.ref 547, Value.int 963 0, Value.int 326 0, Value.str (Str.ofString "/claim/cut.py") 964] }) ::
  (nat_lit 549, fF (tS (nat_lit 59)) (Str.ofString "_law_ends") 3 (Value.none) (Value.none) (Value.none) (Value.str (Str.ofString "law_nz0117_01") 939) none (Value.ref 548) (Value.none) 0 rfl) ::
  (nat_lit 553, { cls := Value.type "code", data := Data.fields #[Value.str (Str.ofString "law") 966, Value.str (Str.ofString "law") 967, Value.str (Str.ofString "/claim/cut.py") 968, Value.int 334 0, Value.int 1 0, Value.int 0 0, Value.int 0 0, Value.int 3 0, Value.ref 550, Value.bool true, Value.int 181 0, Value.ref 551, Value.none, Value.none, Value.none, Value.ref 552, Value.int 969 0, Value.int 334 0, Value.str (Str.ofString "/claim/cut.py") 970] }) ::
  (nat_lit 554, fF (tS (nat_lit 60)) (Str.ofString "law") 3 (Value.none) (Value.none) (Value.none) (Value.str (Str.ofString "law_nz0117_01") 939) none (Value.ref 553) (Value.none) 0 rfl) ::
  []
noncomputable abbrev KA : List Addr := nat_lit 2 :: nat_lit 3 :: nat_lit 20 :: nat_lit 21 :: nat_lit 34 :: nat_lit 35 :: nat_lit 41 :: nat_lit 42 :: nat_lit 44 :: nat_lit 45 :: nat_lit 55 :: nat_lit 56 :: nat_lit 62 :: nat_lit 63 :: nat_lit 67 :: nat_lit 68 :: nat_lit 81 :: nat_lit 82 :: nat_lit 86 :: nat_lit 87 :: nat_lit 89 :: nat_lit 90 :: nat_lit 102 :: nat_lit 108 :: nat_lit 109 :: nat_lit 111 :: nat_lit 112 :: nat_lit 122 :: nat_lit 123 :: nat_lit 129 :: nat_lit 130 :: nat_lit 136 :: nat_lit 137 :: nat_lit 143 :: nat_lit 144 :: nat_lit 157 :: nat_lit 158 :: nat_lit 164 :: nat_lit 165 :: nat_lit 171 :: nat_lit 172 :: nat_lit 174 :: nat_lit 175 :: nat_lit 187 :: nat_lit 193 :: nat_lit 194 :: nat_lit 198 :: nat_lit 199 :: nat_lit 205 :: nat_lit 206 :: nat_lit 210 :: nat_lit 211 :: nat_lit 217 :: nat_lit 218 :: nat_lit 224 :: nat_lit 225 :: nat_lit 227 :: nat_lit 228 :: nat_lit 236 :: nat_lit 237 :: nat_lit 238 :: nat_lit 244 :: nat_lit 245 :: nat_lit 251 :: nat_lit 252 :: nat_lit 258 :: nat_lit 259 :: nat_lit 265 :: nat_lit 266 :: nat_lit 270 :: nat_lit 271 :: nat_lit 275 :: nat_lit 276 :: nat_lit 280 :: nat_lit 281 :: nat_lit 287 :: nat_lit 288 :: nat_lit 301 :: nat_lit 302 :: nat_lit 308 :: nat_lit 309 :: nat_lit 311 :: nat_lit 312 :: nat_lit 329 :: nat_lit 330 :: nat_lit 336 :: nat_lit 337 :: nat_lit 339 :: nat_lit 340 :: nat_lit 350 :: nat_lit 351 :: nat_lit 357 :: nat_lit 358 :: nat_lit 364 :: nat_lit 365 :: nat_lit 371 :: nat_lit 372 :: nat_lit 378 :: nat_lit 379 :: nat_lit 385 :: nat_lit 386 :: nat_lit 392 :: nat_lit 393 :: nat_lit 399 :: nat_lit 400 :: nat_lit 406 :: nat_lit 407 :: nat_lit 413 :: nat_lit 414 :: nat_lit 420 :: nat_lit 421 :: nat_lit 427 :: nat_lit 428 :: nat_lit 434 :: nat_lit 435 :: nat_lit 448 :: nat_lit 449 :: nat_lit 455 :: nat_lit 456 :: nat_lit 462 :: nat_lit 463 :: nat_lit 469 :: nat_lit 470 :: nat_lit 474 :: nat_lit 475 :: nat_lit 477 :: nat_lit 478 :: nat_lit 490 :: nat_lit 496 :: nat_lit 497 :: nat_lit 503 :: nat_lit 504 :: nat_lit 510 :: nat_lit 511 :: nat_lit 517 :: nat_lit 518 :: nat_lit 522 :: nat_lit 523 :: nat_lit 525 :: nat_lit 526 :: nat_lit 534 :: nat_lit 535 :: nat_lit 541 :: nat_lit 542 :: nat_lit 548 :: nat_lit 549 :: nat_lit 553 :: nat_lit 554 :: []
noncomputable abbrev VV : Program := view PySem.Challenge.pw_nz0117_01 [0, 2, 3, 4, 5, 7, 8, 9, 10, 11, 12, 13, 14, 15, 16, 18, 19, 20, 22, 23, 24, 26, 27, 29, 30, 31, 32, 33, 34, 35, 36, 37, 38, 39, 40, 41, 42, 43, 44, 45, 46, 47, 48, 50, 52, 53, 54, 55, 57, 58, 59, 60]
end Mine
set_option maxRecDepth 100000
open PySem PySem.W PySem.Spec PySem.Calls PyProof.Rows
namespace Mine
abbrev Led := List (Addr × Obj)

/-- a call of the def at f with these values, from a frame whose ledger is news -/
def Spec (w : World) (f : Addr) (args : List Value) (news : Led) (dd uu : Nat) (Post : Value → Led → Prop) : Prop :=
  ∀ (mean : ExcName → Option Value) (mg mb : Str → Option Value) (dp un : Nat) (gd : Option (List Code)) (cn : Str) (cs : Scope) (a : Addr) (ccd : Value) (cl : List (Str × Addr)) (outer : List Env) (A₀ : Around) (base h₀ : Heap) (L : Addr) (m : Str → Option Value) (s : Shared)
    (Q E : Value → Shared → Prop),
    Below A₀ base outer h₀ → Fr h₀ L s.heap m → Frag.In (KK w.params) h₀ → News h₀ L s.heap news → Top VV (looseW VV []) mean mg mb h₀ → cs.kind = .function → dp + dd < recursionLimit → un + uu < cLine →
    (∀ r news' h' tk', Post r news' → Fr h₀ L h' m → News h₀ L h' news' → Q r { s with heap := h', toks := tk' }) →
    wpAny (model PySem.Challenge.rw_nz0117_01.row.prog w) (ktrTop dp un gd cn cs L a ccd cl outer) (call (.ref f) args) Q E s

theorem use_spec {w : World} {f : Addr} {args : List Value} {cur led : Led} {dd uu : Nat} {Post : Value → Led → Prop} {mean : ExcName → Option Value} {mg mb : Str → Option Value} {dp un : Nat} {gd : Option (List Code)} {cn : Str} {cs : Scope} {a : Addr} {ccd : Value} {cl : List (Str × Addr)} {outer : List Env} {A₀ : Around} {base h₀ : Heap} {L : Addr} {m : Str → Option Value} {s : Shared}
    {Q E : Value → Shared → Prop} (H : Spec w f args led dd uu Post) (hp : cur.Perm led)
    (B : Below A₀ base outer h₀) (F : Fr h₀ L s.heap m) (X : Frag.In (KK w.params) h₀) (N : News h₀ L s.heap cur) (T : Top VV (looseW VV []) mean mg mb h₀) (hk : cs.kind = .function) (hd : dp + dd < recursionLimit) (hu : un + uu < cLine)
    (ret : ∀ r news' h' tk', Post r news' → Fr h₀ L h' m → News h₀ L h' news' → Q r { s with heap := h', toks := tk' }) :
    wpAny (model PySem.Challenge.rw_nz0117_01.row.prog w) (ktrTop dp un gd cn cs L a ccd cl outer) (call (.ref f) args) Q E s :=
  H mean mg mb dp un gd cn cs a ccd cl outer A₀ base h₀ L m s Q E B F X (fun p q => N p (hp.mem_iff.mpr q)) T hk hd hu ret

theorem Spec.mono {w : World} {f : Addr} {args : List Value} {led led' : Led} {dd uu : Nat} {Post Post' : Value → Led → Prop} (H : Spec w f args led dd uu Post) (hs : ∀ p ∈ led, p ∈ led') (k : ∀ r n, Post r n → Post' r n) : Spec w f args led' dd uu Post' :=
  fun mean mg mb dp un gd cn cs a ccd cl outer A₀ base h₀ L m s Q E B F X N T hk hd hu ret =>
    H mean mg mb dp un gd cn cs a ccd cl outer A₀ base h₀ L m s Q E B F X (fun p q => N p (hs p q)) T hk hd hu fun r n h' tk' p => ret r n h' tk' (k r n p)

/-! the ledger's addresses -/
def ND (l : Led) : Prop := (l.map Prod.fst).Nodup
theorem ND.cons {d : Addr} {o : Obj} {l : Led} (h : AllLt d l) (n : ND l) : ND ((d, o) :: l) := by
  unfold ND at *
  rw [List.map_cons, List.nodup_cons]
  refine ⟨fun q => ?_, n⟩
  obtain ⟨p, hp, e⟩ := List.mem_map.mp q
  have := ktn_ltOf h p hp
  exact Nat.lt_irrefl _ (e ▸ this)
theorem ND.perm {l l' : Led} (h : l.Perm l') (n : ND l) : ND l' := (h.map Prod.fst).nodup_iff.mp n
theorem ND.head {d : Addr} {o : Obj} {l : Led} (n : ND ((d, o) :: l)) : ∀ p ∈ l, p.1 ≠ d := fun p hp e => by
  unfold ND at n
  rw [List.map_cons, List.nodup_cons] at n
  exact n.1 (List.mem_map.mpr ⟨p, hp, e⟩)
theorem ND.tail {p : Addr × Obj} {l : Led} (n : ND (p :: l)) : ND l := by
  unfold ND at *
  rw [List.map_cons, List.nodup_cons] at n
  exact n.2
theorem ND.same {l l' : Led} (n : ND l) (e : l'.map Prod.fst = l.map Prod.fst) : ND l' := by unfold ND at *; rw [e]; exact n
theorem ND.left {l l' : Led} (n : ND (l ++ l')) : ND l := by
  unfold ND at *
  rw [List.map_append] at n
  exact (List.nodup_append.mp n).1
theorem ND.right {l l' : Led} (n : ND (l ++ l')) : ND l' := by
  unfold ND at *
  rw [List.map_append] at n
  exact (List.nodup_append.mp n).2.1
theorem allLt_app {d : Addr} : ∀ {l l' : Led}, AllLt d (l ++ l') → AllLt d l ∧ AllLt d l'
  | [], _, h => ⟨trivial, h⟩
  | _ :: _, _, h => ⟨⟨h.1, (allLt_app h.2).1⟩, (allLt_app h.2).2⟩
theorem allLt_join {d : Addr} : ∀ {l l' : Led}, AllLt d l → AllLt d l' → AllLt d (l ++ l')
  | [], _, _, h => h
  | _ :: _, _, h, k => ⟨h.1, allLt_join h.2 k⟩
theorem pt {α : Type} {p : α} {l r r' : List α} (q : α) (h : r.Perm (p :: r')) : (q :: r).Perm (p :: q :: r') := (List.Perm.cons q h).trans (List.Perm.swap p q r')
theorem pa {α : Type} {p : α} {l r r' : List α} (h : r.Perm (p :: r')) : (l ++ r).Perm (p :: (l ++ r')) := (List.Perm.append_left l h).trans List.perm_middle
theorem ptB {α : Type} {b r r' : List α} (q : α) (h : r.Perm (b ++ r')) : (q :: r).Perm (b ++ q :: r') := (List.Perm.cons q h).trans List.perm_middle.symm
theorem paB {α : Type} {b l r r' : List α} (h : r.Perm (b ++ r')) : (l ++ r).Perm (b ++ (l ++ r')) := (List.Perm.append_left l h).trans (by rw [← List.append_assoc, ← List.append_assoc]; exact List.Perm.append_right r' List.perm_append_comm)

structure IR where
  x : Addr
  d : Addr
  glyph : Int
  cluster : Int
  uns : Bool
  xo : Int
  yo : Int
  parent : Int
  bond : Str
  (k0 k1 k2 k3 k4 k5 k6 k7 k8 k9 k10 k11 k12 k13 k14 k15 : Tok)
  (v0 v1 v2 v3 v5 v6 v7 v8 v9 v10 v11 v12 v13 v14 v15 : Tok)
def infoEs (P : Params) (r : IR) : List DictEntry := [
    ⟨PyData.keyHash P (Str.ofString "code"), .str (Str.ofString "code") r.k0, .int 97 r.v0⟩,
    ⟨PyData.keyHash P (Str.ofString "glyph"), .str (Str.ofString "glyph") r.k1, .int r.glyph r.v1⟩,
    ⟨PyData.keyHash P (Str.ofString "cluster"), .str (Str.ofString "cluster") r.k2, .int r.cluster r.v2⟩,
    ⟨PyData.keyHash P (Str.ofString "mask"), .str (Str.ofString "mask") r.k3, .int 0 r.v3⟩,
    ⟨PyData.keyHash P (Str.ofString "is_unsafe"), .str (Str.ofString "is_unsafe") r.k4, .bool r.uns⟩,
    ⟨PyData.keyHash P (Str.ofString "lig_id"), .str (Str.ofString "lig_id") r.k5, .int 0 r.v5⟩,
    ⟨PyData.keyHash P (Str.ofString "lig_part"), .str (Str.ofString "lig_part") r.k6, .int 0 r.v6⟩,
    ⟨PyData.keyHash P (Str.ofString "lig_count"), .str (Str.ofString "lig_count") r.k7, .int 0 r.v7⟩,
    ⟨PyData.keyHash P (Str.ofString "split_id"), .str (Str.ofString "split_id") r.k8, .int 0 r.v8⟩,
    ⟨PyData.keyHash P (Str.ofString "kind"), .str (Str.ofString "kind") r.k9, .str (Str.ofString "") r.v9⟩,
    ⟨PyData.keyHash P (Str.ofString "x_advance"), .str (Str.ofString "x_advance") r.k10, .int 0 r.v10⟩,
    ⟨PyData.keyHash P (Str.ofString "y_advance"), .str (Str.ofString "y_advance") r.k11, .int 0 r.v11⟩,
    ⟨PyData.keyHash P (Str.ofString "x_offset"), .str (Str.ofString "x_offset") r.k12, .int r.xo r.v12⟩,
    ⟨PyData.keyHash P (Str.ofString "y_offset"), .str (Str.ofString "y_offset") r.k13, .int r.yo r.v13⟩,
    ⟨PyData.keyHash P (Str.ofString "parent"), .str (Str.ofString "parent") r.k14, .int r.parent r.v14⟩,
    ⟨PyData.keyHash P (Str.ofString "bond"), .str (Str.ofString "bond") r.k15, .str r.bond r.v15⟩]

abbrev rowPair (P : Params) (r : IR) : Led := [(r.x, instObj 175 r.d), (r.d, dictOf (infoEs P r) 16)]
def rowsLed (P : Params) (rs : List IR) : Led := rs.flatMap (rowPair P)
theorem rowsLed_append (P : Params) (a b : List IR) : rowsLed P (a ++ b) = rowsLed P a ++ rowsLed P b := by simp [rowsLed]
theorem rowsLed_cons (P : Params) (r : IR) (b : List IR) : rowsLed P (r :: b) = (r.x, instObj 175 r.d) :: (r.d, dictOf (infoEs P r) 16) :: rowsLed P b := by simp [rowsLed]
theorem rows_x {P : Params} {rs : List IR} {r : IR} (h : r ∈ rs) : (r.x, instObj 175 r.d) ∈ rowsLed P rs := List.mem_flatMap.mpr ⟨r, h, .head _⟩
theorem rows_d {P : Params} {rs : List IR} {r : IR} (h : r ∈ rs) : (r.d, dictOf (infoEs P r) 16) ∈ rowsLed P rs := List.mem_flatMap.mpr ⟨r, h, .tail _ (.head _)⟩
/-- the addresses of the rows stay -/
def SameX (rs rs' : List IR) : Prop := rs'.map (fun r => (r.x, r.d)) = rs.map (fun r => (r.x, r.d))
theorem SameX.rfl' {rs : List IR} : SameX rs rs := rfl
theorem SameX.trans {a b c : List IR} (h : SameX a b) (k : SameX b c) : SameX a c := Eq.trans k h
theorem SameX.len {a b : List IR} (h : SameX a b) : b.length = a.length := by have := congrArg List.length h; simpa using this
theorem rowsLed_keys (P : Params) : ∀ rs : List IR, (rowsLed P rs).map Prod.fst = rs.flatMap (fun r => [r.x, r.d])
  | [] => rfl
  | r :: b => by rw [rowsLed_cons, List.map_cons, List.map_cons, rowsLed_keys P b]; rfl
theorem SameX.keys {P : Params} {a b : List IR} (h : SameX a b) : (rowsLed P b).map Prod.fst = (rowsLed P a).map Prod.fst := by
  rw [rowsLed_keys, rowsLed_keys]
  have e : ∀ l : List IR, l.flatMap (fun r => [r.x, r.d]) = (l.map (fun r => (r.x, r.d))).flatMap (fun p => [p.1, p.2]) := fun l => by rw [List.flatMap_map]
  rw [e, e, h]
theorem SameX.nd {P : Params} {a b : List IR} {rest : Led} (h : SameX a b) (n : ND (rowsLed P a ++ rest)) : ND (rowsLed P b ++ rest) :=
  n.same (by rw [List.map_append, List.map_append, h.keys])
theorem SameX.set {rs : List IR} {i : Nat} {r r' : IR} (hr : rs[i]? = some r) (hx : r'.x = r.x) (hd : r'.d = r.d) : SameX rs (rs.set i r') := by
  unfold SameX
  rw [List.map_set]
  apply List.ext_getElem?
  intro j
  rw [List.getElem?_set]
  split
  · rename_i e; subst e
    rw [List.getElem?_map, hr]
    have : i < (rs.map fun r => (r.x, r.d)).length := by rw [List.length_map]; exact (List.getElem?_eq_some_iff.mp hr).1
    simp [hx, hd]
    exact (List.getElem?_eq_some_iff.mp hr).1
  · rfl
/-- one row set apart -/
theorem rows_split {rs : List IR} {i : Nat} {r : IR} (hr : rs[i]? = some r) : rs = rs.take i ++ r :: rs.drop (i + 1) := by
  obtain ⟨hi, e⟩ := List.getElem?_eq_some_iff.mp hr
  rw [← e, List.getElem_cons_drop, List.take_append_drop]
theorem set_split {rs : List IR} {i : Nat} {r r' : IR} (hr : rs[i]? = some r) : rs.set i r' = rs.take i ++ r' :: rs.drop (i + 1) := by
  obtain ⟨hi, e⟩ := List.getElem?_eq_some_iff.mp hr
  rw [List.set_eq_take_append_cons_drop, if_pos hi]
def others (P : Params) (rs : List IR) (i : Nat) (rest : Led) : Led := rowsLed P (rs.take i) ++ (rowsLed P (rs.drop (i + 1)) ++ rest)
theorem focus {P : Params} {rs : List IR} {i : Nat} {r : IR} {rest : Led} (hr : rs[i]? = some r) :
    (rowsLed P rs ++ rest).Perm ((r.x, instObj 175 r.d) :: (r.d, dictOf (infoEs P r) 16) :: others P rs i rest) := by
  have e := rows_split hr
  conv => lhs; rw [e, rowsLed_append, rowsLed_cons]
  unfold others
  rw [List.append_assoc, List.cons_append, List.cons_append]
  exact pa (List.Perm.refl _) |>.trans (List.Perm.cons _ (pa (List.Perm.refl _)))
theorem unfocus {P : Params} {rs : List IR} {i : Nat} {r r' : IR} {rest : Led} (hr : rs[i]? = some r) :
    (rowsLed P (rs.set i r') ++ rest).Perm ((r'.x, instObj 175 r'.d) :: (r'.d, dictOf (infoEs P r') 16) :: others P rs i rest) := by
  rw [set_split hr, rowsLed_append, rowsLed_cons]
  unfold others
  rw [List.append_assoc, List.cons_append, List.cons_append]
  exact pa (List.Perm.refl _) |>.trans (List.Perm.cons _ (pa (List.Perm.refl _)))
theorem nperm {h₀ h : Heap} {L : Addr} {l l' : Led} (p : l.Perm l') (N : News h₀ L h l) : News h₀ L h l' := fun q hq => N q (p.mem_iff.mpr hq)
theorem News.sub {h₀ h : Heap} {L : Addr} {l l' : Led} (N : News h₀ L h l) (s : ∀ p ∈ l', p ∈ l) : News h₀ L h l' := fun q hq => N q (s q hq)
section
variable {prog : Program} {w : World} {A : Around} {E : Value → Shared → Prop} {s : Shared} {h₀ : Heap} {L l : Addr} {news : Led}
theorem len_led {vs : List Value} {n : Nat} {Q : Value → Shared → Prop} (N : News h₀ L s.heap news) (hm : (l, listOf vs.toArray n) ∈ news) (hz : vs.length < 2 ^ 62)
    (h : Q (.int vs.length (s.toks + 1)) { s with toks := s.toks + 1 + 1 }) : wpAny (model prog w) A (call (.builtin "len") [.ref l]) Q E s :=
  len_list (News.isList N hm) (by rw [List.size_toArray]; omega) (by rw [List.size_toArray]; exact h)
theorem item_led {value slice : Expr} {vs : List Value} {n : Nat} {k : Int} {u : Tok} {x : Value} {Q : Value → Shared → Prop} (N : News h₀ L s.heap news) (hm : (l, listOf vs.toArray n) ∈ news)
    (h0 : 0 ≤ k) (hfit : k < 2 ^ 63) (hx : vs[k.toNat]? = some x) (h : Q x s)
    (hs : subscripted slice false (.ref l) (.int k u) = operate [.ref l, .int k u] (getItem (.ref l) (.int k u)) := by with_unfolding_all rfl) (hg : ∀ r, letTemporaryGo value (.ref l) r = pure () := by intro _; with_unfolding_all rfl) :
    wpAny (model prog w) A (subscriptTail value slice (.ref l) (.int k u)) Q E s := item_list (News.isList N hm) h0 hfit (by simpa using hx) h hs hg
end
section
variable {prog : Program} {w : World} {A : Around} {E : Value → Shared → Prop} {s : Shared} {env : Env} {h₀ : Heap} {x : Str} {body : List Stmt} {Q : Flow → Shared → Prop}
/-- a while by a state of one's own -/
def WhW {σ : Type} (h₀ : Heap) (L : Addr) (s : Shared) (m₀ : Str → Option Value) (Fm : (Str → Option Value) → σ → Str → Option Value) (Ld : σ → Led) (P : σ → Prop) (μ : σ → Nat) (Q : Flow → Shared → Prop) (n : Nat) (f : Flow) (s₃ : Shared) : Prop :=
  match f with
  | .next | .cont => ∃ h' tk c', s₃ = { s with heap := h', toks := tk } ∧ Fr h₀ L h' (Fm m₀ c') ∧ News h₀ L h' (Ld c') ∧ μ c' < n ∧ P c'
  | .brk => Q .next s₃
  | .ret v => Q (.ret v) s₃
theorem WhW.go {σ : Type} {L : Addr} {m₀ : Str → Option Value} {Fm : (Str → Option Value) → σ → Str → Option Value} {Ld : σ → Led} {P : σ → Prop} {μ : σ → Nat} {n : Nat} {h' : Heap} {tk : Nat} (c' : σ) (F : Fr h₀ L h' (Fm m₀ c')) (N : News h₀ L h' (Ld c')) (hn : μ c' < n) (hP : P c') :
    WhW h₀ L s m₀ Fm Ld P μ Q n .next { s with heap := h', toks := tk } := ⟨h', tk, c', rfl, F, N, hn, hP⟩
theorem while_st {σ : Type} {L : Addr} {test : Expr} {pos : Pos} {m₀ : Str → Option Value} (Fm : (Str → Option Value) → σ → Str → Option Value) (Ld : σ → Led) (P : σ → Prop) (μ : σ → Nat) {c₀ : σ}
    (F : Fr h₀ L s.heap (Fm m₀ c₀)) (N : News h₀ L s.heap (Ld c₀)) (hP : P c₀)
    (turn : ∀ c h tk, P c → Fr h₀ L h (Fm m₀ c) → News h₀ L h (Ld c) →
      wpAny (model prog w) A (isTrue test env (eval test env)) (fun b s₂ =>
        if b = true then wpAny (model prog w) A (execs body env) (WhW h₀ L s m₀ Fm Ld P μ Q (μ c)) E s₂ else Q .next s₂) E { s with heap := h, toks := tk })
    (hE : PassesOwn (model prog w) A env E := by passes_own) :
    wpAny (model prog w) A (exec (.While test body [] pos) env) Q E s := by
  refine While_inv2 (fun n m nw => ∃ c, m = Fm m₀ c ∧ nw = Ld c ∧ n = μ c ∧ P c) F N ⟨c₀, rfl, rfl, rfl, hP⟩ ?_ hE
  rintro n m₁ nw h₁ tk₁ F₁ N₁ ⟨c, rfl, rfl, rfl, hc⟩
  refine wpAny_mono (turn c h₁ tk₁ hc F₁ N₁) (fun b s₂ h₂ => ?_) fun _ _ e => e
  cases b with
  | false => exact h₂
  | true =>
    simp only [if_true] at h₂ ⊢
    refine wpAny_mono h₂ (fun f s₃ h₃ => ?_) fun _ _ e => e
    cases f with
    | next => obtain ⟨h', tk, c', e, F', N', hn, hp⟩ := h₃; exact ⟨h', tk, _, _, _, e, F', N', hn, c', rfl, rfl, rfl, hp⟩
    | cont => obtain ⟨h', tk, c', e, F', N', hn, hp⟩ := h₃; exact ⟨h', tk, _, _, _, e, F', N', hn, c', rfl, rfl, rfl, hp⟩
    | brk => exact h₃
    | ret v => exact h₃
/-- a for by a state of one's own -/
def ForW {σ : Type} (h₀ : Heap) (L : Addr) (s : Shared) (x : Str) (I : Addr) (oI : Obj) (m₀ : Str → Option Value) (Fm : (Str → Option Value) → σ → Str → Option Value) (Ld : σ → Led) (P : σ → Prop) (Q : Flow → Shared → Prop) (f : Flow) (s₃ : Shared) : Prop :=
  match f with
  | .ret v => Q (.ret v) s₃
  | .brk => Q .next s₃
  | _ => ∃ h' tk c' u, s₃ = { s with heap := h', toks := tk } ∧ Fr h₀ L h' (fun y => if y = x then u else Fm m₀ c' y) ∧ News h₀ L h' ((I, oI) :: Ld c') ∧ (∀ p ∈ Ld c', p.1 ≠ I) ∧ P c'
theorem ForW.go {σ : Type} {L I : Addr} {oI : Obj} {m₀ : Str → Option Value} {Fm : (Str → Option Value) → σ → Str → Option Value} {Ld : σ → Led} {P : σ → Prop} {h' : Heap} {tk : Nat} {u : Option Value} (c' : σ)
    (F : Fr h₀ L h' (fun y => if y = x then u else Fm m₀ c' y)) (N : News h₀ L h' ((I, oI) :: Ld c')) (hI : ∀ p ∈ Ld c', p.1 ≠ I) (hP : P c') :
    ForW h₀ L s x I oI m₀ Fm Ld P Q .next { s with heap := h', toks := tk } := ⟨h', tk, c', u, rfl, F, N, hI, hP⟩
theorem ForW.goc {σ : Type} {L I : Addr} {oI : Obj} {m₀ : Str → Option Value} {Fm : (Str → Option Value) → σ → Str → Option Value} {Ld : σ → Led} {P : σ → Prop} {h' : Heap} {tk : Nat} {u : Option Value} (c' : σ)
    (F : Fr h₀ L h' (fun y => if y = x then u else Fm m₀ c' y)) (N : News h₀ L h' ((I, oI) :: Ld c')) (hI : ∀ p ∈ Ld c', p.1 ≠ I) (hP : P c') :
    ForW h₀ L s x I oI m₀ Fm Ld P Q .cont { s with heap := h', toks := tk } := ⟨h', tk, c', u, rfl, F, N, hI, hP⟩
theorem own_self (x : Str) (m : Str → Option Value) : m = fun y => if y = x then m x else m y := by
  funext y; by_cases h : y = x
  · simp [h]
  · simp [h]
theorem for_walks {σ : Type} {I : Addr} {fp : List Addr} {n : Nat} {V : Nat → Value → Prop} {St : Nat → Heap → Prop} {m₀ : Str → Option Value} (Fm : (Str → Option Value) → σ → Str → Option Value) (Ld : σ → Led) (P : Nat → σ → Prop) {c₀ : σ} {s₂ : Shared}
    (W : Walks prog w A I fp [I] n V St) (hob : ∀ i h, St i h → ∃ o, h.get? I = some o) (hfp : ∀ b ∈ fp, b = I ∨ ∃ lo, (∀ i c, P i c → (b, lo) ∈ Ld c)) (hLf : env.locals ∉ fp) (hI₀ : h₀.get? I = none) (hnI : ∀ p ∈ Ld c₀, p.1 ≠ I) (hst : St 0 s₂.heap)
    (F : Fr h₀ env.locals s₂.heap (Fm m₀ c₀)) (N : News h₀ env.locals s₂.heap (Ld c₀)) (hP : P 0 c₀)
    (turn : ∀ i v c h tk oI, i < n → V i v → P i c → (∀ p ∈ Ld c, p.1 ≠ I) → Fr h₀ env.locals h (fun y => if y = x then some v else Fm m₀ c y) → News h₀ env.locals h ((I, oI) :: Ld c) →
      wpAny (model prog w) A (execs body env) (ForW h₀ env.locals s₂ x I oI m₀ Fm Ld (P (i + 1)) Q) E { s₂ with heap := h, toks := tk })
    (done : ∀ c u h tk, P n c → Fr h₀ env.locals h (fun y => if y = x then u else Fm m₀ c y) → News h₀ env.locals h (Ld c) → Q .next { s₂ with heap := h, toks := tk }) :
    LoopAtV prog w A h₀ env x body Q E (.ref I) s₂ := by
  let J : Nat → (Str → Option Value) → List (Addr × Obj) → Prop := fun i m nw => ∃ c u, m = (fun y => if y = x then u else Fm m₀ c y) ∧ nw = Ld c ∧ P i c
  have e0 := own_self x (Fm m₀ c₀)
  rw [e0] at F
  refine ⟨I, fp, [I], n, V, St, _, Ld c₀, J, rfl, W, hLf, ?_, ?_, hst, F, N, ⟨c₀, _, rfl, rfl, hP⟩, ?_, ?_⟩
  · intro b hb; rw [List.mem_singleton.mp hb]; exact hI₀
  · intro p hp hI; exact hnI p hp (List.mem_singleton.mp hI)
  · rintro i v m₁ news₁ s₁ own ⟨h, tk, rfl⟩ hin hV ⟨c, u, rfl, rfl, hc⟩ hoff hown hget hall hst' F₁ N₁
    obtain ⟨oI, hoI⟩ := hob _ _ hst'
    have hIin : (I, oI) ∈ own := hall I (W.sub I (List.mem_singleton.mpr rfl)) hI₀ oI hoI
    have hn : ∀ p ∈ Ld c, p.1 ≠ I := fun p hp e => hoff p hp (List.mem_singleton.mpr e)
    have eF : (fun y => if y = x then some v else (fun y => if y = x then u else Fm m₀ c y) y) = fun y => if y = x then some v else Fm m₀ c y := by
      funext y; by_cases hy : y = x
      · simp [hy]
      · simp [hy]
    rw [eF] at F₁
    have Nn : News h₀ env.locals h ((I, oI) :: Ld c) := fun p hp => by
      rcases List.mem_cons.mp hp with rfl | hp
      · exact N₁ _ (List.mem_append_left _ hIin)
      · exact N₁ _ (List.mem_append_right _ hp)
    refine wpAny_mono (turn i v c h tk oI hin hV hc hn F₁ Nn) (fun f s₃ h₃ => ?_) fun _ _ e => e
    have fin : (∃ h' tk' c' u', s₃ = { s₂ with heap := h', toks := tk' } ∧ Fr h₀ env.locals h' (fun y => if y = x then u' else Fm m₀ c' y) ∧ News h₀ env.locals h' ((I, oI) :: Ld c') ∧ (∀ p ∈ Ld c', p.1 ≠ I) ∧ P (i + 1) c') →
        LoopStepU h₀ env.locals [I] own (J (i + 1)) { s₂ with heap := h, toks := tk } .next s₃ := by
      rintro ⟨h', tk', c', u', rfl, F', N', hI', hp'⟩
      refine ⟨rfl, h', tk', _, Ld c', rfl, F', fun p hp => ?_, fun p hp hq => hI' p hp (List.mem_singleton.mp hq), c', u', rfl, rfl, hp'⟩
      rcases List.mem_append.mp hp with hp | hp
      · rcases hfp p.1 (hown p hp) with e | ⟨lo, hlo⟩
        · have e2 : p = (I, oI) := by
            have := hget p hp
            rw [e] at this
            have e3 : some oI = some p.2 := hoI.symm.trans this
            exact Prod.ext e (Option.some.inj e3).symm
          rw [e2]; exact N' _ (.head _)
        · have h1 := (Nn _ (List.mem_cons_of_mem _ (hlo i c hc))).1
          have h2 : h.get? p.1 = some p.2 := hget p hp
          have e2 : p = (p.1, lo) := Prod.ext rfl (Option.some.inj (h2.symm.trans h1))
          rw [e2]; exact N' _ (List.mem_cons_of_mem _ (hlo (i + 1) c' hp'))
      · exact N' _ (List.mem_cons_of_mem _ hp)
    cases f with
    | ret v => exact .ret h₃
    | brk => exact .brk h₃
    | next => exact .next (fin h₃)
    | cont => exact .cont (fin h₃)
  · rintro h' tk m' news' F' N' _ ⟨c, u, rfl, rfl, hc⟩
    exact done c u h' tk hc F' N'
theorem for_range {σ : Type} {r : Addr} {a b : Int} {t u v : Tok} {n : Nat} {m₀ : Str → Option Value} (Fm : (Str → Option Value) → σ → Str → Option Value) (Ld : σ → Led) (P : Nat → σ → Prop) {c₀ : σ}
    (hh : A.handled = none) (hr : IsRange s.heap r a b 1 t u v) (hsm : Builtin.Range.small a b 1 = true) (hn : Builtin.Range.rangeSize a b 1 = ((n : Nat) : Int))
    (F : Fr h₀ env.locals s.heap (Fm m₀ c₀)) (N : News h₀ env.locals s.heap (Ld c₀)) (hP : P 0 c₀)
    (turn : ∀ (i : Nat) t c h tk I oI, i < n → P i c → (∀ p ∈ Ld c, p.1 ≠ I) → Fr h₀ env.locals h (fun y => if y = x then some (.int (a + (i : Int)) t) else Fm m₀ c y) → News h₀ env.locals h ((I, oI) :: Ld c) →
      wpAny (model prog w) A (execs body env) (ForW h₀ env.locals s x I oI m₀ Fm Ld (P (i + 1)) Q) E { s with heap := h, toks := tk })
    (done : ∀ c u h tk, P n c → Fr h₀ env.locals h (fun y => if y = x then u else Fm m₀ c y) → News h₀ env.locals h (Ld c) → Q .next { s with heap := h, toks := tk }) :
    wpAny (model prog w) A (pyIter (.ref r)) (fun it s₂ => LoopAtV prog w A h₀ env x body Q E it s₂) E s := by
  refine wpAny_pyIter_range hr hsm ?_
  refine for_walks Fm Ld P (LCg.range_walks hh a n) (fun i h st => ⟨_, st⟩) (fun b hb => .inl (List.mem_singleton.mp hb)) (fun hm => absurd F.ns.lt ((List.mem_singleton.mp hm) ▸ Nat.lt_irrefl _)) (next_is_new F)
    (fun p hp => Nat.ne_of_lt (Heap.lt_size (N p hp).1)) (by show IsRangeIter _ _ _ _ _; rw [hn]; simpa using Heap.get?_push_size _ rfl) (F.push _) (fun p hp => ⟨Heap.get?_push_of_some _ (N p hp).1, (N p hp).2⟩) hP ?_ done
  rintro i v c h tk oI hi ⟨t', rfl⟩ hc hn' F' N'
  exact turn i t' c h tk _ oI hi hc hn' F' N'
theorem for_list {σ : Type} {l : Addr} {vs : List Value} {ep : Nat} {m₀ : Str → Option Value} (Fm : (Str → Option Value) → σ → Str → Option Value) (Ld : σ → Led) (P : Nat → σ → Prop) {c₀ : σ}
    (hh : A.handled = none) (hl : ∀ i c, P i c → (l, listOf vs.toArray ep) ∈ Ld c)
    (F : Fr h₀ env.locals s.heap (Fm m₀ c₀)) (N : News h₀ env.locals s.heap (Ld c₀)) (hP : P 0 c₀)
    (turn : ∀ (i : Nat) v c h tk I oI, vs[i]? = some v → P i c → (∀ p ∈ Ld c, p.1 ≠ I) → Fr h₀ env.locals h (fun y => if y = x then some v else Fm m₀ c y) → News h₀ env.locals h ((I, oI) :: Ld c) →
      wpAny (model prog w) A (execs body env) (ForW h₀ env.locals s x I oI m₀ Fm Ld (P (i + 1)) Q) E { s with heap := h, toks := tk })
    (done : ∀ c u h tk, P vs.length c → Fr h₀ env.locals h (fun y => if y = x then u else Fm m₀ c y) → News h₀ env.locals h (Ld c) → Q .next { s with heap := h, toks := tk }) :
    wpAny (model prog w) A (pyIter (.ref l)) (fun it s₂ => LoopAtV prog w A h₀ env x body Q E it s₂) E s := by
  have hls : s.heap.IsList l vs.toArray := News.isList N (hl 0 c₀ hP)
  have hne : l ≠ s.heap.objs.size := Nat.ne_of_lt (Heap.lt_size (N _ (hl 0 c₀ hP)).1)
  have hlL : l ≠ env.locals := (N _ (hl 0 c₀ hP)).2.1
  refine wpAny_pyIter_list hls ?_
  have W := Walks.list (prog := prog) (w := w) hh s.heap.objs.size l hne vs.toArray
  have hlen : vs.toArray.size = vs.length := by simp
  rw [hlen] at W
  refine for_walks Fm Ld P W (fun i h st => by obtain ⟨o, e, _⟩ := st.1; exact ⟨o, e⟩) (fun b hb => ?_) (fun hm => ?_) (next_is_new F) (fun p hp => Nat.ne_of_lt (Heap.lt_size (N p hp).1))
    ⟨⟨_, Heap.get?_push_size _ rfl, rfl, rfl⟩, hls.push _⟩ (F.push _) (fun p hp => ⟨Heap.get?_push_of_some _ (N p hp).1, (N p hp).2⟩) hP ?_ done
  · rcases List.mem_cons.mp hb with e | hb
    · exact .inl e
    · exact .inr ⟨_, fun i c hc => (List.mem_singleton.mp hb) ▸ hl i c hc⟩
  · rcases List.mem_cons.mp hm with e | hm
    · exact absurd F.ns.lt (e ▸ Nat.lt_irrefl _)
    · exact hlL (List.mem_singleton.mp hm).symm
  · intro i v c h tk oI hi hV hc hn' F' N'
    exact turn i v c h tk _ oI (by simpa using hV) hc hn' F' N'
end
theorem fr_put {h₀ h : Heap} {L : Addr} {y : Str} {a b : Option Value} {m : Str → Option Value} (F : Fr h₀ L h (fun z => if z = y then a else if z = y then b else m z)) : Fr h₀ L h (fun z => if z = y then a else m z) := by
  have e : (fun z => if z = y then a else if z = y then b else m z) = fun z => if z = y then a else m z := by
    funext z; by_cases q : z = y
    · simp [q]
    · simp [q]
  rw [← e]; exact F
section
variable {prog : Program} {w : World} {A : Around} {E : Value → Shared → Prop} {s : Shared} {h₀ : Heap} {L l : Addr} {m : Str → Option Value} {env : Env} {news : Led}
/-- a slice of a list that is known -/
theorem slice_led {value slice : Expr} {vs : List Value} {ep : Nat} {vl vu : Value} {x y : Int} {Q : Value → Shared → Prop} (F : Fr h₀ L s.heap m) (N : News h₀ L s.heap news) (hm : (l, listOf vs.toArray ep) ∈ news) (pl : IsPart vl (some x)) (pu : IsPart vu (some y)) (hx : 0 ≤ x) (hx' : x ≤ vs.length) (hy : 0 ≤ y) (hy' : y ≤ vs.length) (hz : vs.length ≤ 1000)
    (h : ∀ D h' zs, zs = (vs.drop x.toNat).take (y.toNat - x.toNat) → Fr h₀ L h' m → News h₀ L h' ((D, listOf zs.toArray 0) :: news) → (∀ p ∈ news, p.1 < D) → Q (.ref D) { s with heap := h' })
    (hs : subscripted slice false (.ref l) (.ref s.heap.objs.size) = operate [.ref s.heap.objs.size, .ref l] (getItem (.ref l) (.ref s.heap.objs.size)) := by with_unfolding_all rfl) (ht : ∀ r, letTemporaryGo value (.ref l) r = pure () := by intro _; with_unfolding_all rfl) :
    wpAny (model prog w) A (subscriptTail value slice (.ref l) (.ref s.heap.objs.size)) Q E { s with heap := s.heap.push { cls := .type "slice", data := .fields #[vl, vu, .none] } } := by
  refine kmk_slice F N (News.isList N hm) pl pu (fun D h' F' N' l1 => h D h' _ rfl F' ?_ l1) hs ht (by rw [List.size_toArray, sizeLine_eq]; omega)
  have e : sliceBounds (some x) (some y) none vs.toArray.size = (((x.toNat : Nat) : Int), ((y.toNat : Nat) : Int), 1) := by
    simp only [sliceBounds, Option.getD_none, show (1 : Int) > 0 by decide, if_true, if_neg (show ¬ (x < 0) by omega), if_neg (show ¬ (y < 0) by omega), List.size_toArray]
    congr 1
    · omega
    · congr 1
      omega
  rw [kmk_pick_nat _ e] at N'
  exact N'
/-- a turn of a comprehension -/
def CmpW (h₀ : Heap) (L : Addr) (m : Str → Option Value) (s₁ : Shared) (news : Led) (J : Value → Prop) (y : Value) (s₂ : Shared) : Prop :=
  ∃ h' tk, s₂ = { s₁ with heap := h', toks := tk } ∧ Fr h₀ L h' m ∧ News h₀ L h' news ∧ J y
theorem CmpW.go {J : Value → Prop} {y : Value} {h' : Heap} {tk : Nat} (F : Fr h₀ L h' m) (N : News h₀ L h' news) (hJ : J y) : CmpW h₀ L m s news J y { s with heap := h', toks := tk } := ⟨h', tk, rfl, F, N, hJ⟩
theorem comp_rest {elt : Expr} {x : Str} {scope : Scope} {cl : List (Str × Addr)} {S : Led → Prop} {P : Nat → Value → Prop} {Fin : List Value → Led → Prop} (n : Nat) (J : Nat → List Value → Prop) (hS : S news)
    (turn : ∀ i ys v I oI C oC D m₂ h tk E', i < n → P i v → J i ys → LCg.NsObj oC m₂ → m₂ x = some v → Fr h₀ L h m → News h₀ L h ((I, oI) :: (C, oC) :: (D, LCg.lst ys) :: news) → LCg.Off3 I C D news → ((@Ne Nat I C) ∧ (@Ne Nat I D) ∧ (@Ne Nat C D)) →
      wpAny (model prog w) A (eval elt (compEnvC scope cl C env)) (CmpW h₀ L m s ((I, oI) :: (C, oC) :: (D, LCg.lst ys) :: news) (fun y => J (i + 1) (ys ++ [y]))) E' { s with heap := h, toks := tk })
    (fin : ∀ ys, J n ys → Fin ys news) : ∀ k i ys, k + i = n → J i ys → LCg.CompRest prog w A h₀ L m env elt x scope cl s S P Fin k i ys news
  | 0, i, ys, e, hJ => LCg.CompRest.zero (fin ys (by rw [Nat.zero_add] at e; exact e ▸ hJ))
  | k + 1, i, ys, e, hJ => LCg.CompRest.succ fun v I oI C oC D m₂ h tk E' hP hC hx F N off ne =>
      wpAny_mono (turn i ys v I oI C oC D m₂ h tk E' (by omega) hP hJ hC hx F N off ne) (fun y s₂ ⟨h', tk', e', F', N', hJ'⟩ =>
        ⟨h', tk', news, e', F', N', off, hS, comp_rest n J hS turn fin k (i + 1) (ys ++ [y]) (by omega) hJ'⟩) fun _ _ e => e
theorem comp_list {elt : Expr} {x : Str} {scope : Scope} {cl : List (Str × Addr)} {Fin : Shared → List Value → Led → Prop} {vs : List Value} {ep : Nat} (J : Nat → List Value → Prop)
    (hh : A.handled = none) (F : Fr h₀ L s.heap m) (N : News h₀ L s.heap news) (hm : (l, listOf vs.toArray ep) ∈ news) (hz : vs.length ≤ 1000) (hJ : J 0 [])
    (turn : ∀ (i : Nat) ys v I oI C oC D m₂ h tk E', vs[i]? = some v → J i ys → LCg.NsObj oC m₂ → m₂ x = some v → Fr h₀ L h m → News h₀ L h ((I, oI) :: (C, oC) :: (D, LCg.lst ys) :: news) → LCg.Off3 I C D news → ((@Ne Nat I C) ∧ (@Ne Nat I D) ∧ (@Ne Nat C D)) →
      wpAny (model prog w) A (eval elt (compEnvC scope cl C env)) (CmpW h₀ L m s ((I, oI) :: (C, oC) :: (D, LCg.lst ys) :: news) (fun y => J (i + 1) (ys ++ [y]))) E' { s with heap := h, toks := tk })
    (fin : ∀ g ys, J vs.length ys → Fin { s with heap := g } ys news) : LCg.CompSrc prog w A h₀ L m env elt x scope cl Fin (.ref l) s := by
  refine LCg.CompSrc.ledger hh F N hm (by rw [List.size_toArray, sizeLine_eq]; omega) fun g => ?_
  exact comp_rest (s := { s with heap := g }) (S := LCg.SrcAt h₀ l vs.toArray) (P := fun i v => vs.toArray[i]? = some v) vs.length J (.inr ⟨_, hm, rfl, _, rfl⟩) (fun i ys v I oI C oC D m₂ h tk E' _ hv => turn i ys v I oI C oC D m₂ h tk E' (by simpa using hv)) (fin g) vs.toArray.size 0 [] (by simp) hJ
theorem comp_range {elt : Expr} {x : Str} {scope : Scope} {cl : List (Str × Addr)} {Fin : Shared → List Value → Led → Prop} {r : Addr} {a b : Int} {t u v : Tok} {n : Nat} (J : Nat → List Value → Prop)
    (hh : A.handled = none) (F : Fr h₀ L s.heap m) (N : News h₀ L s.heap news) (hr : IsRange s.heap r a b 1 t u v) (hsm : Builtin.Range.small a b 1 = true) (hn : Builtin.Range.rangeSize a b 1 = ((n : Nat) : Int)) (hz : n ≤ 1000) (hJ : J 0 [])
    (turn : ∀ (i : Nat) ys v I oI C oC D m₂ h tk E', i < n → (∃ t, v = .int (a + (i : Int)) t) → J i ys → LCg.NsObj oC m₂ → m₂ x = some v → Fr h₀ L h m → News h₀ L h ((I, oI) :: (C, oC) :: (D, LCg.lst ys) :: news) → LCg.Off3 I C D news → ((@Ne Nat I C) ∧ (@Ne Nat I D) ∧ (@Ne Nat C D)) →
      wpAny (model prog w) A (eval elt (compEnvC scope cl C env)) (CmpW h₀ L m s ((I, oI) :: (C, oC) :: (D, LCg.lst ys) :: news) (fun y => J (i + 1) (ys ++ [y]))) E' { s with heap := h, toks := tk })
    (fin : ∀ g ys, J n ys → Fin { s with heap := g } ys news) : LCg.CompSrc prog w A h₀ L m env elt x scope cl Fin (.ref r) s := by
  refine LCg.CompSrc.range hh F N hr hsm hn (by rw [sizeLine_eq]; omega) fun g => ?_
  exact comp_rest (s := { s with heap := g }) (S := fun _ => True) n J trivial (fun i ys v I oI C oC D m₂ h tk E' => turn i ys v I oI C oC D m₂ h tk E') (fin g) n 0 [] (by omega) hJ
end
def IsAnchor (P : Params) (led : Led) (a : Addr) (x y : Int) : Prop := ∃ (d : Addr) (k0 v0 k1 v1 : Tok), (a, instObj 45 d) ∈ led ∧ (d, dictOf [⟨PyData.keyHash P (Str.ofString "x"), .str (Str.ofString "x") k0, .int x v0⟩, ⟨PyData.keyHash P (Str.ofString "y"), .str (Str.ofString "y") k1, .int y v1⟩] 2) ∈ led
theorem IsAnchor.mono {P : Params} {led led' : Led} {a : Addr} {x y : Int} (h : IsAnchor P led a x y) (s : ∀ p ∈ led, p ∈ led') : IsAnchor P led' a x y :=
  let ⟨d, k0, v0, k1, v1, m1, m2⟩ := h; ⟨d, k0, v0, k1, v1, s _ m1, s _ m2⟩
def IsLookup (P : Params) (led : Led) (lk : Addr) (kd : Str) (flag : Int) (tabs : Addr) : Prop := ∃ (d : Addr) (k0 v0 k1 v1 k2 v2 k3 : Tok), (lk, instObj 90 d) ∈ led ∧ (d, dictOf [⟨PyData.keyHash P (Str.ofString "kind"), .str (Str.ofString "kind") k0, .str kd v0⟩, ⟨PyData.keyHash P (Str.ofString "flag"), .str (Str.ofString "flag") k1, .int flag v1⟩, ⟨PyData.keyHash P (Str.ofString "mark_set"), .str (Str.ofString "mark_set") k2, .int 0 v2⟩, ⟨PyData.keyHash P (Str.ofString "tables"), .str (Str.ofString "tables") k3, .ref tabs⟩] 4) ∈ led
theorem IsLookup.mono {P : Params} {led led' : Led} {lk : Addr} {kd : Str} {flag : Int} {tabs : Addr} (h : IsLookup P led lk kd flag tabs) (s : ∀ p ∈ led, p ∈ led') : IsLookup P led' lk kd flag tabs :=
  let ⟨d, k0, v0, k1, v1, k2, v2, k3, m1, m2⟩ := h; ⟨d, k0, v0, k1, v1, k2, v2, k3, s _ m1, s _ m2⟩
def IsScene (P : Params) (led : Led) (sc buf gd lks lk : Addr) : Prop := ∃ (d : Addr) (r6 : Addr) (k0 k1 k2 k3 k4 v4 k5 v5 k6 : Tok), (sc, instObj 112 d) ∈ led ∧ (d, dictOf [⟨PyData.keyHash P (Str.ofString "buffer"), .str (Str.ofString "buffer") k0, .ref buf⟩, ⟨PyData.keyHash P (Str.ofString "gdef"), .str (Str.ofString "gdef") k1, .ref gd⟩, ⟨PyData.keyHash P (Str.ofString "lookups"), .str (Str.ofString "lookups") k2, .ref lks⟩, ⟨PyData.keyHash P (Str.ofString "lookup"), .str (Str.ofString "lookup") k3, .ref lk⟩, ⟨PyData.keyHash P (Str.ofString "mask"), .str (Str.ofString "mask") k4, .int 1 v4⟩, ⟨PyData.keyHash P (Str.ofString "depth"), .str (Str.ofString "depth") k5, .int 0 v5⟩, ⟨PyData.keyHash P (Str.ofString "steps"), .str (Str.ofString "steps") k6, .ref r6⟩] 7) ∈ led
theorem IsScene.mono {P : Params} {led led' : Led} {sc buf gd lks lk : Addr} (h : IsScene P led sc buf gd lks lk) (s : ∀ p ∈ led, p ∈ led') : IsScene P led' sc buf gd lks lk :=
  let ⟨d, r6, k0, k1, k2, k3, k4, v4, k5, v5, k6, m1, m2⟩ := h; ⟨d, r6, k0, k1, k2, k3, k4, v4, k5, v5, k6, s _ m1, s _ m2⟩
def IsBuf (P : Params) (led : Led) (buf row : Addr) : Prop := ∃ (d : Addr) (k0 k1 k2 v2 k3 v3 : Tok), (buf, instObj 228 d) ∈ led ∧ (d, dictOf [⟨PyData.keyHash P (Str.ofString "row"), .str (Str.ofString "row") k0, .ref row⟩, ⟨PyData.keyHash P (Str.ofString "is_backward"), .str (Str.ofString "is_backward") k1, .bool false⟩, ⟨PyData.keyHash P (Str.ofString "last_lig"), .str (Str.ofString "last_lig") k2, .int 0 v2⟩, ⟨PyData.keyHash P (Str.ofString "last_split"), .str (Str.ofString "last_split") k3, .int 0 v3⟩] 4) ∈ led
theorem IsBuf.mono {P : Params} {led led' : Led} {buf row : Addr} (h : IsBuf P led buf row) (s : ∀ p ∈ led, p ∈ led') : IsBuf P led' buf row :=
  let ⟨d, k0, k1, k2, v2, k3, v3, m1, m2⟩ := h; ⟨d, k0, k1, k2, v2, k3, v3, s _ m1, s _ m2⟩
def IsTabB (P : Params) (led : Led) (tb mk bs : Addr) : Prop := ∃ (d : Addr) (k0 k1 : Tok), (tb, instObj 312 d) ∈ led ∧ (d, dictOf [⟨PyData.keyHash P (Str.ofString "marks"), .str (Str.ofString "marks") k0, .ref mk⟩, ⟨PyData.keyHash P (Str.ofString "bases"), .str (Str.ofString "bases") k1, .ref bs⟩] 2) ∈ led
theorem IsTabB.mono {P : Params} {led led' : Led} {tb mk bs : Addr} (h : IsTabB P led tb mk bs) (s : ∀ p ∈ led, p ∈ led') : IsTabB P led' tb mk bs :=
  let ⟨d, k0, k1, m1, m2⟩ := h; ⟨d, k0, k1, s _ m1, s _ m2⟩
def IsTabM (P : Params) (led : Led) (tb mk bs : Addr) : Prop := ∃ (d : Addr) (k0 k1 : Tok), (tb, instObj 340 d) ∈ led ∧ (d, dictOf [⟨PyData.keyHash P (Str.ofString "marks"), .str (Str.ofString "marks") k0, .ref mk⟩, ⟨PyData.keyHash P (Str.ofString "others"), .str (Str.ofString "others") k1, .ref bs⟩] 2) ∈ led
theorem IsTabM.mono {P : Params} {led led' : Led} {tb mk bs : Addr} (h : IsTabM P led tb mk bs) (s : ∀ p ∈ led, p ∈ led') : IsTabM P led' tb mk bs :=
  let ⟨d, k0, k1, m1, m2⟩ := h; ⟨d, k0, k1, s _ m1, s _ m2⟩
def IsCls (P : Params) (led : Led) (cd cm : Addr) : Prop := ∃ (d : Addr) (k0 : Tok), (cd, instObj 478 d) ∈ led ∧ (d, dictOf [⟨PyData.keyHash P (Str.ofString "classes"), .str (Str.ofString "classes") k0, .ref cm⟩] 1) ∈ led
theorem IsCls.mono {P : Params} {led led' : Led} {cd cm : Addr} (h : IsCls P led cd cm) (s : ∀ p ∈ led, p ∈ led') : IsCls P led' cd cm :=
  let ⟨d, k0, m1, m2⟩ := h; ⟨d, k0, s _ m1, s _ m2⟩
def IsGdef (P : Params) (led : Led) (gd cd : Addr) : Prop := ∃ (d : Addr) (r1 r2 r3 r4 : Addr) (k0 k1 k2 k3 k4 : Tok), (gd, instObj 526 d) ∈ led ∧ (d, dictOf [⟨PyData.keyHash P (Str.ofString "classes"), .str (Str.ofString "classes") k0, .ref cd⟩, ⟨PyData.keyHash P (Str.ofString "attach"), .str (Str.ofString "attach") k1, .ref r1⟩, ⟨PyData.keyHash P (Str.ofString "sets"), .str (Str.ofString "sets") k2, .ref r2⟩, ⟨PyData.keyHash P (Str.ofString "points"), .str (Str.ofString "points") k3, .ref r3⟩, ⟨PyData.keyHash P (Str.ofString "carets"), .str (Str.ofString "carets") k4, .ref r4⟩] 5) ∈ led
theorem IsGdef.mono {P : Params} {led led' : Led} {gd cd : Addr} (h : IsGdef P led gd cd) (s : ∀ p ∈ led, p ∈ led') : IsGdef P led' gd cd :=
  let ⟨d, r1, r2, r3, r4, k0, k1, k2, k3, k4, m1, m2⟩ := h; ⟨d, r1, r2, r3, r4, k0, k1, k2, k3, k4, s _ m1, s _ m2⟩
abbrev prg : Program := PySem.Challenge.rw_nz0117_01.row.prog
/-- the table of the glyphs' classes -/
def IsCM (w : World) (led : Led) (cm : Addr) : Prop := ∃ (o : Obj) (t1 t2 t3 t4 t5 : Tok), (cm, o) ∈ led ∧ (cm == sysModules) = false ∧
  o.IsDictOf (intKind prg w) [(1, .int 1 t1), (2, .int 1 t2), (3, .int 1 t3), (4, .int 3 t4), (5, .int 3 t5)] ∧
  PyProof.V.FlatPairs PyData.int [(1, .int 1 t1), (2, .int 1 t2), (3, .int 1 t3), (4, .int 3 t4), (5, .int 3 t5)] [(.int 1, .int 1), (.int 2, .int 1), (.int 3, .int 1), (.int 4, .int 3), (.int 5, .int 3)]
theorem IsCM.mono {w : World} {led led' : Led} {cm : Addr} (h : IsCM w led cm) (s : ∀ p ∈ led, p ∈ led') : IsCM w led' cm :=
  let ⟨o, t1, t2, t3, t4, t5, m, r⟩ := h; ⟨o, t1, t2, t3, t4, t5, s _ m, r⟩
/-- the whole of the gdef -/
def IsGd (w : World) (led : Led) (gd : Addr) : Prop := ∃ cd cm, IsGdef w.params led gd cd ∧ IsCls w.params led cd cm ∧ IsCM w led cm
theorem IsGd.mono {w : World} {led led' : Led} {gd : Addr} (h : IsGd w led gd) (s : ∀ p ∈ led, p ∈ led') : IsGd w led' gd :=
  let ⟨cd, cm, a, b, c⟩ := h; ⟨cd, cm, a.mono s, b.mono s, c.mono s⟩
def GL (rs : List IR) : Prop := ∀ r ∈ rs, 1 ≤ r.glyph ∧ r.glyph ≤ 5
def rowOf (rs : List IR) : List Value := rs.map fun r => Value.ref r.x
theorem rowOf_len (rs : List IR) : (rowOf rs).length = rs.length := List.length_map _
theorem SameX.row {a b : List IR} (h : SameX a b) : rowOf b = rowOf a := by
  have := congrArg (List.map (fun p : Addr × Addr => Value.ref p.1)) h
  simpa [rowOf, List.map_map, Function.comp_def] using this
/-- the buffer's row -/
def IsRow (led : Led) (row : Addr) (rs : List IR) : Prop := ∃ ep, (row, listOf (rowOf rs).toArray ep) ∈ led
theorem IsRow.mono {led led' : Led} {row : Addr} {rs : List IR} (h : IsRow led row rs) (s : ∀ p ∈ led, p ∈ led') : IsRow led' row rs := let ⟨e, m⟩ := h; ⟨e, s _ m⟩
theorem IsRow.same {led : Led} {row : Addr} {a b : List IR} (h : IsRow led row a) (e : SameX a b) : IsRow led row b := by unfold IsRow; rw [e.row]; exact h
/-- all that a walk over the scene asks -/
structure Sc (w : World) (led : Led) (rs : List IR) (sc buf row gd lks lk tabs : Addr) (kd : Str) (f : Int) : Prop where
  scene : IsScene w.params led sc buf gd lks lk
  buf : IsBuf w.params led buf row
  gd : IsGd w led gd
  lk : IsLookup w.params led lk kd f tabs
  row : IsRow led row rs
  gl : GL rs
  len : rs.length < 100
theorem Sc.mono {w : World} {led led' : Led} {rs : List IR} {sc buf row gd lks lk tabs : Addr} {kd : Str} {f : Int} (h : Sc w led rs sc buf row gd lks lk tabs kd f) (s : ∀ p ∈ led, p ∈ led') : Sc w led' rs sc buf row gd lks lk tabs kd f :=
  ⟨h.scene.mono s, h.buf.mono s, h.gd.mono s, h.lk.mono s, h.row.mono s, h.gl, h.len⟩
section
variable {prog : Program} {w : World} {A : Around} {E : Value → Shared → Prop} {s : Shared} {h₀ : Heap} {L l : Addr} {cur : Led}
theorem len_row {rs : List IR} {ep : Nat} {Q : Value → Shared → Prop} (N : News h₀ L s.heap cur) (hm : (l, listOf (rowOf rs).toArray ep) ∈ cur) (hz : rs.length < 100)
    (h : Q (.int rs.length (s.toks + 1)) { s with toks := s.toks + 1 + 1 }) : wpAny (model prog w) A (call (.builtin "len") [.ref l]) Q E s :=
  len_led N hm (by rw [rowOf_len]; omega) (by rw [rowOf_len]; exact h)
theorem row_item {P : Params} {value slice : Expr} {rs : List IR} {ep : Nat} {k : Int} {u : Tok} {Q : Value → Shared → Prop} (hK : Frag.In (KK P) h₀) (N : News h₀ L s.heap cur) (hm : (l, listOf (rowOf rs).toArray ep) ∈ cur) (hz : rs.length < 100) (hG : GL rs)
    (h0 : 0 ≤ k) (hk : k < (rs.length : Int))
    (h : ∀ r, rs[k.toNat]? = some r → (r.x, instObj 175 r.d) ∈ rowsLed P rs → (r.d, dictOf (infoEs P r) 16) ∈ rowsLed P rs → 1 ≤ r.glyph → r.glyph ≤ 5 → Q (.ref r.x) s)
    (hs : subscripted slice false (.ref l) (.int k u) = operate [.ref l, .int k u] (getItem (.ref l) (.int k u)) := by with_unfolding_all rfl) (hg : ∀ r, letTemporaryGo value (.ref l) r = pure () := by intro _; with_unfolding_all rfl) :
    wpAny (model prog w) A (subscriptTail value slice (.ref l) (.int k u)) Q E s := by
  have hlt : k.toNat < rs.length := by omega
  have hr : rs[k.toNat]? = some rs[k.toNat] := List.getElem?_eq_getElem hlt
  have hmem : rs[k.toNat] ∈ rs := List.getElem_mem hlt
  exact item_led N hm h0 (by omega) (by unfold rowOf; rw [List.getElem?_map, hr]; rfl) (h _ hr (rows_x hmem) (rows_d hmem) (hG _ hmem).1 (hG _ hmem).2) hs hg
theorem row_at {P : Params} {value slice : Expr} {rs : List IR} {ep : Nat} {k : Int} {u : Tok} {r : IR} {Q : Value → Shared → Prop} (hK : Frag.In (KK P) h₀) (N : News h₀ L s.heap cur) (hm : (l, listOf (rowOf rs).toArray ep) ∈ cur) (hz : rs.length < 100) (hG : GL rs)
    (h0 : 0 ≤ k) (hr : rs[k.toNat]? = some r) (h : (r.x, instObj 175 r.d) ∈ rowsLed P rs → (r.d, dictOf (infoEs P r) 16) ∈ rowsLed P rs → 1 ≤ r.glyph → r.glyph ≤ 5 → Q (.ref r.x) s)
    (hs : subscripted slice false (.ref l) (.int k u) = operate [.ref l, .int k u] (getItem (.ref l) (.int k u)) := by with_unfolding_all rfl) (hg : ∀ r, letTemporaryGo value (.ref l) r = pure () := by intro _; with_unfolding_all rfl) :
    wpAny (model prog w) A (subscriptTail value slice (.ref l) (.int k u)) Q E s := by
  have hlt := (List.getElem?_eq_some_iff.mp hr).1
  have hmem := List.mem_of_getElem? hr
  exact item_led N hm h0 (by omega) (by unfold rowOf; rw [List.getElem?_map, hr]; rfl) (h (rows_x hmem) (rows_d hmem) (hG _ hmem).1 (hG _ hmem).2) hs hg
end
/-- the next one ahead that is not passed -/
def nb (f : Int) (rs : List IR) : Nat → Int
  | 0 => -1
  | k + 1 => match rs[k]? with
    | some q => if f = 8 ∧ 4 ≤ q.glyph then nb f rs k else k
    | none => -1
theorem nb_step {f : Int} {rs : List IR} {k : Int} {q : IR} (h0 : 0 ≤ k) (hq : rs[k.toNat]? = some q) : nb f rs (k + 1).toNat = if f = 8 ∧ 4 ≤ q.glyph then nb f rs k.toNat else k := by
  have e : (k + 1).toNat = k.toNat + 1 := by omega
  rw [e]
  show (match rs[k.toNat]? with | some q => if f = 8 ∧ 4 ≤ q.glyph then nb f rs k.toNat else ((k.toNat : Nat) : Int) | none => -1) = _
  rw [hq]
  show (if f = 8 ∧ 4 ≤ q.glyph then nb f rs k.toNat else ((k.toNat : Nat) : Int)) = _
  rw [show ((k.toNat : Nat) : Int) = k from by omega]
theorem notin_kinds {prog : Program} {w : World} {A : Around} {E : Value → Shared → Prop} {s : Shared} {h₀ : Heap} {L : Addr} {m : Str → Option Value} {K : Frag} {dd : Option Addr} {sl : Array (Option Value)} {n : Nat} {t1 t2 t3 u : Tok} {Q : Value → Shared → Prop} (F : Fr h₀ L s.heap m) (X : K.In h₀)
    (hl : K.lookup 238 = some ⟨.type "tuple", dd, .seq [Value.str (Str.ofString "zwj") t1, .str (Str.ofString "zwnj") t2, .str (Str.ofString "hidden") t3].toArray n, sl⟩) (h : Q (.bool true) s) :
    wpAny (model prog w) A (compareOp .NotIn (.str (Str.ofString "") u) (.ref 238)) Q E s :=
  notin_tuple_strs (tupK (X.keeps F.keep) hl) (ys := [Str.ofString "zwj", Str.ofString "zwnj", Str.ofString "hidden"]) (.cons _ _ (.cons _ _ (.cons _ _ .nil))) (by rw [show (!([Str.ofString "zwj", Str.ofString "zwnj", Str.ofString "hidden"].any (· == Str.ofString ""))) = true from by decide +kernel]; exact h)
end Mine
set_option Elab.async false
open PySem PySem.W PySem.Spec PySem.Calls PyProof.Rows
namespace Mine
theorem fill_all : (fun (_ : OpenLaw) (_ : Params → Frag) => True) PySem.Challenge.rw_nz0117_01 KK := by k_fill; trivial
theorem IntsAre.snoc' {vs : List Value} {ns : List Int} {k : Int} {t : Tok} (h : IntsAre vs ns) : IntsAre (vs ++ [.int k t]) (ns ++ [k]) := by
  induction h with
  | nil => exact .cons _ _ .nil
  | cons n t _ ih => exact .cons n t ih
theorem truthy_ints {prog : Program} {w : World} {A : Around} {E : Value → Shared → Prop} {s : Shared} {h₀ : Heap} {L l : Addr} {news : Led} {vs : List Value} {n : Nat} {Q : Bool → Shared → Prop} (N : News h₀ L s.heap news) (hm : (l, listOf vs.toArray n) ∈ news) (hz : vs.length < 100)
    (h0 : vs.length = 0 → ∀ t, Q false { s with toks := t }) (h1 : 0 < vs.length → ∀ t, Q true { s with toks := t }) : wpAny (model prog w) A (truthy (.ref l)) Q E s := by
  refine kgr_truthy N hm rfl rfl (by omega) ?_
  by_cases hv : vs.length = 0
  · have e2 : (!vs.isEmpty) = false := by
      cases vs with
      | nil => rfl
      | cons a b => cases hv
    rw [e2]; exact h0 hv _
  · have e2 : (!vs.isEmpty) = true := by
      cases vs with
      | nil => exact absurd rfl hv
      | cons a b => rfl
    rw [e2]; exact h1 (by omega) _
theorem off1_mem {D : Addr} {l : Led} : LCg.Off1 D l → ∀ p ∈ l, p.1 ≠ D := by
  induction l with
  | nil => intro _ p hp; cases hp
  | cons q r ih =>
    intro h p hp
    rcases List.mem_cons.mp hp with rfl | hp
    · exact h.1
    · exact ih h.2 p hp
section
variable {prog : Program} {w : World} {A : Around} {E : Value → Shared → Prop} {s : Shared} {env : Env} {h₀ : Heap} {x : Str} {body : List Stmt} {Q : Flow → Shared → Prop}
/-- a for over a list that turns one int -/
theorem for_list1 {y : Str} {l : Addr} {vs : List Value} {ep : Nat} {led : Led} {k₀ : Int} {t₀ : Tok} {m₀ : Str → Option Value} (P : Nat → Int → Prop) {ns : List Int} (hi : IntsAre vs ns)
    (hh : A.handled = none) (hl : (l, listOf vs.toArray ep) ∈ led)
    (F : Fr h₀ env.locals s.heap (fun z => if z = y then some (.int k₀ t₀) else m₀ z)) (N : News h₀ env.locals s.heap led) (hP : P 0 k₀)
    (turn : ∀ (i : Nat) j u k t h tk I oI, P i k → (∀ p ∈ led, p.1 ≠ I) → Fr h₀ env.locals h (fun z => if z = x then some (.int j u) else if z = y then some (.int k t) else m₀ z) → News h₀ env.locals h ((I, oI) :: led) →
      wpAny (model prog w) A (execs body env) (ForW h₀ env.locals s x I oI m₀ (fun m (c : Int × Tok) z => if z = y then some (.int c.1 c.2) else m z) (fun _ => led) (fun c => P (i + 1) c.1) Q) E { s with heap := h, toks := tk })
    (done : ∀ k t u h tk, P vs.length k → Fr h₀ env.locals h (fun z => if z = x then u else if z = y then some (.int k t) else m₀ z) → News h₀ env.locals h led → Q .next { s with heap := h, toks := tk }) :
    wpAny (model prog w) A (pyIter (.ref l)) (fun it s₂ => LoopAtV prog w A h₀ env x body Q E it s₂) E s :=
  for_list (σ := Int × Tok) (c₀ := (k₀, t₀)) (fun m c z => if z = y then some (.int c.1 c.2) else m z) (fun _ => led) (fun i c => P i c.1) hh (fun _ _ _ => hl) F N hP
    (fun i v c h tk I oI hv hp hn F' N' => by
      obtain ⟨j, u, rfl, -⟩ := IntsAre.at hi _ _ hv
      exact turn i j u c.1 c.2 h tk I oI hp hn F' N') (fun c u h tk hp F' N' => done c.1 c.2 u h tk hp F' N')
end
theorem ND.ne {d : Addr} {o : Obj} {l : Led} (h : ∀ p ∈ l, p.1 ≠ d) (n : ND l) : ND ((d, o) :: l) := by
  unfold ND at *
  rw [List.map_cons, List.nodup_cons]
  refine ⟨fun q => ?_, n⟩
  obtain ⟨p, hp, e⟩ := List.mem_map.mp q
  exact h p hp e
theorem fm_lo (a : Int) {n : Int} (h : 1 ≤ n) : 0 ≤ a.fmod n ∧ a.fmod n < n := ⟨Int.fmod_nonneg_of_pos a (by omega), Int.fmod_lt_of_pos a (by omega)⟩
theorem fr_swap {h₀ h : Heap} {L : Addr} {x y : Str} {a b c : Option Value} {m : Str → Option Value} (hxy : x ≠ y) (F : Fr h₀ L h (fun z => if z = y then a else if z = x then b else if z = y then c else m z)) : Fr h₀ L h (fun z => if z = x then b else if z = y then a else m z) := by
  have e : (fun z => if z = y then a else if z = x then b else if z = y then c else m z) = fun z => if z = x then b else if z = y then a else m z := by
    funext z
    by_cases q : z = y
    · subst q; simp [Ne.symm hxy]
    · by_cases q' : z = x
      · subst q'; simp [hxy]
      · simp [q, q']
  rw [← e]; exact F
/-- the pen, new -/
def PenR (news : Led) (r : Value) (n : Led) : Prop := ∃ (pen cells D : Addr) (ys ws : List Value) (ms : List Int) (g st : Int) (tg ts tp : Tok), r = .ref pen ∧ n = (pen, listOf #[.ref cells, .int g tg, .int st ts, .int 0 tp] 0) :: (cells, listOf ys.toArray ys.length) :: (D, listOf ws.toArray 0) :: news ∧
  IntsAre ys ms ∧ ys.length < 100 ∧ 0 ≤ g ∧ g < 10 ^ 240 ∧ 0 ≤ st ∧ st < 2147483647 ∧ (ND news → ND n)
theorem PenR.of {news : Led} {pen cells D : Addr} {ys ws : List Value} {ms : List Int} {g st : Int} {tg ts tp : Tok} (hi : IntsAre ys ms) (hz : ys.length < 100) (hg : 0 ≤ g ∧ g < 10 ^ 240) (hs : 0 ≤ st ∧ st < 2147483647)
    (l1 : ∀ p ∈ news, p.1 < D) (o1 : D ≠ cells ∧ LCg.Off1 cells news) (l2 : cells < pen ∧ D < pen ∧ AllLt pen news) :
    PenR news (.ref pen) ((pen, listOf #[.ref cells, .int g tg, .int st ts, .int 0 tp] 0) :: (cells, LCg.lst ys) :: (D, listOf ws.toArray 0) :: news) :=
  ⟨pen, cells, D, ys, ws, ms, g, st, tg, ts, tp, rfl, rfl, hi, hz, hg.1, hg.2, hs.1, hs.2, fun nd => by
    refine ND.cons ⟨l2.1, l2.2.1, l2.2.2⟩ (ND.ne (fun p hp => ?_) (ND.cons (allLt_of l1) nd))
    rcases List.mem_cons.mp hp with rfl | hp
    · exact o1.1
    · exact off1_mem o1.2 p hp⟩
section
local macro_rules | `(tactic| walk_at "exec Assign cons ListComp") => `(tactic| (k_here; lcg_calm; k_dflt (refine LCg.Assign_ListComp_U (F₀ := by k_asm) (by rfl) (by with_unfolding_all rfl) (by with_unfolding_all rfl) (by decide) (by rfl) (by decide) (by rfl) (by rfl) (by rfl) ?_)))
local macro_rules | `(tactic| walk_at "CompSrc") => `(tactic| k_extra "CompSrc")
local macro_rules | `(tactic| walk_at "pyIter ref") => `(tactic| k_extra "pyIter ref")
local macro_rules | `(tactic| walk_at "exec For Name Name cons nil") => `(tactic| k_extra "exec For Name Name cons nil")
local macro_rules | `(tactic| walk_at "truthy ref") => `(tactic| (k_here; (with_reducible show wpAny _ _ (truthy (Value.ref _)) _ _ _); k_dflt (refine' truthy_ints ?N7 ?m7 ?z7 ?h07 ?h17; (case N7 => k_asm); (case m7 => exact List.Mem.head _); (case z7 => assumption); (case' h07 => (intro e9 t9; k_whole)); (case' h17 => (intro e9 t9; k_whole)))))
set_option maxHeartbeats 1000000 in
theorem pen_ok (w : World) (sc : Addr) (vs : List Value) (ns : List Int) (hi : IntsAre vs ns) (hlen : ns.length ≤ 63) (mean : ExcName → Option Value) (mg mb : Str → Option Value) (dp un : Nat) (gdd : Option (List Code)) (cn : Str) (cs : Scope) (a : Addr) (ccd : Value) (cl : List (Str × Addr)) (outer : List Env) (A₀ : Around) (base h₀ : Heap) (L : Addr) (m : Str → Option Value) (s : Shared) (news : Led)
    (Q E : Value → Shared → Prop) (hL : h₀.IsList sc vs.toArray)
    (B : Below A₀ base outer h₀) (F : Fr h₀ L s.heap m) (X : Frag.In (KK w.params) h₀) (N : News h₀ L s.heap news) (T : Top VV (looseW VV []) mean mg mb h₀) (hk' : cs.kind = .function) (hR : dp + 1 < recursionLimit) (hU : un + 8 < cLine)
    (hret : ∀ r news' h' tk', PenR news r news' → Fr h₀ L h' m → News h₀ L h' news' → Q r { s with heap := h', toks := tk' }) :
    wpAny (model PySem.Challenge.rw_nz0117_01.row.prog w) (ktrTop dp un gdd cn cs L a ccd cl outer) (call (.ref 535) [.ref sc]) Q E s := by
  have hl2 := hi.length
  refine wpAny_call ?_
  k_dflt ktr_enter
  rename Fr h₀ L _ m => FG9
  obtain ⟨o9, ho9, hc9, n9, hd9⟩ := hL
  have hL2 := FG9.keep _ _ ho9
  have hL3 : Heap.IsList _ sc vs.toArray := ⟨o9, hL2, hc9, n9, hd9⟩
  k_with_none
  k_with "CompSrc" => (
    (rename Fr _ _ _ _ => lF'); (rename News _ _ _ _ => lN'); (rename IntsAre _ (List.take _ _) => iA9);
    (with_unfolding_all refine' comp_list (fun i ys => ys.length = i ∧ ∃ ns, IntsAre ys ns) (by rfl) lF' lN' ?hm5 ?hz5 ⟨rfl, [], .nil⟩ ?turn5 ?fin5);
    (case hm5 => exact .head _); (case hz5 => have := iA9.length; rw [List.length_take] at this; omega);
    (case' turn5 => (rintro i9 ys9 v9 I9 oI9 C9 oC9 D9 m9 hh9 tk9 E9 hv9 ⟨hl9, ns9, hi9⟩ hC9 hx9 F9 N9 of9 ne9; obtain ⟨k9, t9, e9, -⟩ := IntsAre.at iA9 _ _ hv9; subst e9; clear lF' lN'));
    (case' fin5 => (rintro g9 ys9 ⟨hl9, ns9, hi9⟩; (have lz9 : ys9.length < 100 := by (have := iA9.length; rw [List.length_take] at this; omega)); clear lF' lN')))
  k_with "exec For Name Name cons nil" => (k_here; (rename Fr _ _ _ _ => lF'); (with_unfolding_all refine' For_invVF lF' ?k15 ?k25 ?_; (case k15 => exact rfl); (case k25 => exact rfl); k_whole))
  k_with "pyIter ref" => (
    (rename Fr _ _ _ _ => lF'); (rename News _ _ _ _ => lN');
    (with_unfolding_all refine' for_list1 (vs := ys9) (fun i k => 0 ≤ k ∧ k < 2147483647) hi9 (by rfl) (.head _) lF' lN' ⟨by decide, by decide⟩ (fun i8 j8 u8 k8 t8 hh8 tk8 I8 oI8 ⟨ha8, hb8⟩ hn8 F8 N8 => ?_) (fun k8 t8 u8 hh8 tk8 ⟨ha8, hb8⟩ F8 N8 => ?_)); (all_goals clear lF' lN'))
  k_steps
  · exact ForW.go (_, _) (fr_swap (by decide +kernel) (by k_asm)) (by k_asm) hn8 (fm_lo _ (by decide))
  · exact hret _ _ _ _ (PenR.of hi9 lz9 (fm_lo _ (by decide +kernel)) ⟨ha8, hb8⟩ (by assumption) (by assumption) (by assumption)) (by k_asm) (by k_asm)
  · exact ForW.go (_, _) (fr_swap (by decide +kernel) (by k_asm)) (by k_asm) hn8 (fm_lo _ (by decide))
  · exact hret _ _ _ _ (PenR.of (g := 0) hi9 lz9 ⟨Int.le_refl _, by decide +kernel⟩ ⟨ha8, hb8⟩ (by assumption) (by assumption) (by assumption)) (by k_asm) (by k_asm)
  · exact ForW.go (_, _) (fr_swap (by decide +kernel) (by k_asm)) (by k_asm) hn8 (fm_lo _ (by decide))
  · exact hret _ _ _ _ (PenR.of (g := 0) hi9 lz9 ⟨Int.le_refl _, by decide +kernel⟩ ⟨ha8, hb8⟩ (by assumption) (by assumption) (by assumption)) (by k_asm) (by k_asm)
  · exact CmpW.go (by k_asm) (by k_asm) ⟨by rw [List.length_append, hl9]; rfl, _, IntsAre.snoc' hi9⟩
end
theorem ints_at {vs : List Value} {ns : List Int} (h : IntsAre vs ns) {k : Int} (h0 : 0 ≤ k) (h1 : k < (vs.length : Int)) : ∃ n t, vs[k.toNat]? = some (.int n t) := by
  have hk : k.toNat < ns.length := by have := h.length; omega
  obtain ⟨t, e⟩ := h.get k.toNat ns[k.toNat] (by simp [hk])
  exact ⟨_, t, e⟩
theorem fd_lo {a n : Int} (ha : 0 ≤ a) (h : 1 ≤ n) : 0 ≤ a.fdiv n ∧ a.fdiv n ≤ a := by
  rw [Int.fdiv_eq_ediv_of_nonneg a (by omega)]
  exact ⟨Int.ediv_nonneg ha (by omega), Int.ediv_le_self n ha⟩
theorem alt_step {d x : Addr} {o : Obj} : ∀ {l : Led}, d < x → AllLt d l → AllLt x ((d, o) :: l) := fun {l} h k =>
  ⟨h, by
    induction l with
    | nil => trivial
    | cons p r ih => exact ⟨Nat.lt_trans k.1 h, ih k.2⟩⟩
def Stop (p : Prop) := p
theorem stopP {p : Prop} (h : Stop p) : p := h
theorem nd_of {h₀ h : Heap} {L : Addr} {cur l' : Led} (_N : News h₀ L h cur) (p : cur.Perm l') (n : ND cur) : ND l' := n.perm p
local macro_rules | `(tactic| k_all) => `(tactic| assumption)
local macro_rules | `(tactic| k_mem) => `(tactic| first | assumption | (refine' List.mem_append_right _ ?km9; (case km9 => k_mem)) | (refine' List.mem_append_left _ ?km9; (case km9 => k_mem)))
local macro_rules | `(tactic| news_mem) => `(tactic| k_mem)
local macro_rules | `(tactic| walk_at "z5") => `(tactic| (first | assumption | omega))
local macro_rules | `(tactic| walk_at "call builtin:len") => `(tactic| (k_here; (with_reducible show wpAny _ _ (call (Value.builtin "len") [Value.ref _]) _ _ _); k_dflt (refine' len_led ?N ?m ?f ?_; (case N => k_asm); (case m => k_mem); (case f => walk_at "z5"); k_whole)))
local macro_rules | `(tactic| k_room) => `(tactic| ktr_room)
local macro_rules | `(tactic| k_units) => `(tactic| ktr_units)
local macro_rules | `(tactic| tb_rel) => `(tactic| first | exact List.Perm.refl _ | (refine' ptB _ ?pq9; (case pq9 => tb_rel)) | (refine' paB ?pq9; (case pq9 => tb_rel)))
local macro_rules | `(tactic| tb_start) => `(tactic| first | exact List.Perm.refl _ | (refine' pt _ ?pq9; (case pq9 => tb_start)) | (refine' pa ?pq9; (case pq9 => tb_start)))
local macro_rules | `(tactic| k_lt $h) => `(tactic| (have aL9 := allLt_of $h; replace $h := allLt_of $h; (try simp only [AllLt, and_true] at $h:ident)))
local macro_rules | `(tactic| k_allIn) => `(tactic| first | assumption | (refine' alt_step ?_ ?_; (first | assumption | omega); k_allIn))
local macro_rules | `(tactic| k_ownIn) => `(tactic| first | assumption | exact ND.perm List.perm_middle (by assumption) | (refine' ND.cons ?_ ?_; k_allIn; k_ownIn))
set_option maxHeartbeats 8000000 in
theorem draw_ok (w : World) (pen cells : Addr) (vs : List Value) (ns : List Int) (n n' : Nat) (g st pl lim : Int) (tg ts tp tl : Tok) (rest : Led)
    (hr : ∀ p ∈ rest, p.1 ≠ pen) (hc : (cells, listOf vs.toArray n') ∈ rest) (hi : IntsAre vs ns) (hn : vs.length < 100)
    (hg : 0 ≤ g) (hg' : g < 10 ^ 240) (hs : 0 ≤ st) (hs' : st < 2147483647) (hp : 0 ≤ pl) (hp' : pl < 1000) (hl : 1 ≤ lim) (hl' : lim ≤ 7) :
    Spec w 542 [.ref pen, .int lim tl] ((pen, listOf #[.ref cells, .int g tg, .int st ts, .int pl tp] n) :: rest) 1 8
      (fun r news' => ∃ d t g' tg' st' ts' tp' n'', r = .int d t ∧ 0 ≤ d ∧ d < lim ∧ 0 ≤ g' ∧ g' < 10 ^ 240 ∧ 0 ≤ st' ∧ st' < 2147483647 ∧
        news' = (pen, listOf #[.ref cells, .int g' tg', .int st' ts', .int (pl + 1) tp'] n'') :: rest) := by
  unfold Spec
  intro mean mg mb dp un gd cn cs a ccd cl outer A₀ base h₀ L m s Q E B F X N T hk hR hU hret
  refine wpAny_call ?_
  k_dflt ktr_enter
  k_steps
  all_goals (refine hret _ _ _ _ ⟨_, _, _, _, _, _, _, _, rfl, ?_, ?_, ?_, ?_, ?_, ?_, rfl⟩ (by k_asm) (by k_asm))
  all_goals first
    | omega
    | exact (fm_lo _ hl).1
    | exact (fm_lo _ hl).2
    | exact (fd_lo hg hl).1
    | exact Int.lt_of_le_of_lt (fd_lo hg hl).2 hg'
    | exact (fm_lo _ (n := 2147483647) (by decide)).1
    | exact (fm_lo _ (n := 2147483647) (by decide)).2
set_option maxHeartbeats 8000000 in
theorem class_bit_ok (w : World) (k : Int) (t : Tok) (led : Led) (hk : k = 1 ∨ k = 3) :
    Spec w 130 [.int k t] led 1 8 (fun r n => n = led ∧ ∃ t', r = .int (if k = 1 then 2 else 8) t') := by
  unfold Spec
  intro mean mg mb dp un gdd cn cs a ccd cl outer A₀ base h₀ L m s Q E B F X N T hk' hR hU hret
  rcases hk with rfl | rfl
  all_goals
    refine wpAny_call ?_
    k_dflt ktr_enter
    k_steps
    exact hret _ led _ _ ⟨rfl, _, rfl⟩ (by k_asm) (News.sub (by k_asm) (by k_sub))
set_option maxHeartbeats 8000000 in
theorem glyph_class_ok (w : World) (gd : Addr) (g : Int) (t : Tok) (led : Led) (hg : 1 ≤ g) (hg' : g ≤ 5) (hd : IsGd w led gd) :
    Spec w 504 [.ref gd, .int g t] led 2 16 (fun r n => n = led ∧ ∃ t', r = .int (if g ≤ 3 then 1 else 3) t') := by
  obtain ⟨cd, cm, ⟨d1, r1, r2, r3, r4, k0, k1, k2, k3, k4, m1, m2⟩, ⟨d2, k5, m3, m4⟩, ⟨o, t1, t2, t3, t4, t5, m5, hlo, hdd, hff⟩⟩ := hd
  unfold Spec
  intro mean mg mb dp un gdd cn cs a ccd cl outer A₀ base h₀ L m s Q E B F X N T hk' hR hU hret
  have hc : g = 1 ∨ g = 2 ∨ g = 3 ∨ g = 4 ∨ g = 5 := by omega
  rcases hc with rfl | rfl | rfl | rfl | rfl
  all_goals
    refine wpAny_call ?_
    k_dflt ktr_enter
    k_steps
    exact hret _ led _ _ ⟨rfl, _, rfl⟩ (by k_asm) (by k_asm)
theorem glyph_class_b (w : World) (gd : Addr) (g : Int) (t : Tok) (led : Led) (hg : 1 ≤ g) (hg' : g ≤ 3) (hd : IsGd w led gd) :
    Spec w 504 [.ref gd, .int g t] led 2 16 (fun r n => n = led ∧ ∃ t', r = .int 1 t') :=
  (glyph_class_ok w gd g t led hg (by omega) hd).mono (fun _ h => h) fun r n ⟨a, t', e⟩ => ⟨a, t', by rw [e, if_pos hg']⟩
theorem glyph_class_m (w : World) (gd : Addr) (g : Int) (t : Tok) (led : Led) (hg : 4 ≤ g) (hg' : g ≤ 5) (hd : IsGd w led gd) :
    Spec w 504 [.ref gd, .int g t] led 2 16 (fun r n => n = led ∧ ∃ t', r = .int 3 t') :=
  (glyph_class_ok w gd g t led (by omega) hg' hd).mono (fun _ h => h) fun r n ⟨a, t', e⟩ => ⟨a, t', by rw [e, if_neg (by omega)]⟩
local macro_rules | `(tactic| walk_at "call ref") => `(tactic| k_extra "call ref")
set_option maxHeartbeats 8000000 in
theorem is_ignored_ok (w : World) (gd lk tabs : Addr) (kd : Str) (f g : Int) (t : Tok) (led : Led) (hf : f = 0 ∨ f = 8) (hg : 1 ≤ g) (hg' : g ≤ 5) (hd : IsGd w led gd) (hk : IsLookup w.params led lk kd f tabs) :
    Spec w 137 [.ref gd, .ref lk, .int g t] led 3 24 (fun r n => n = led ∧ r = .bool (decide (f = 8 ∧ 4 ≤ g))) := by
  k_with_none
  k_with "call ref" => (k_here; (with_reducible show wpAny _ _ (call (Value.ref 504) _) _ _ _); k_dflt (refine' use_spec (glyph_class_b _ _ _ _ _ ?h1_u1 ?h2_u1 ?h3_u1) ?p0_u1 ?B0_u1 ?F0_u1 ?X0_u1 ?N0_u1 ?T0_u1 ?k0_u1 ?d0_u1 ?u0_u1 ?_; (case B0_u1 => k_asm); (case F0_u1 => k_asm); (case X0_u1 => k_asm); (case N0_u1 => k_asm); (case T0_u1 => k_asm); (case k0_u1 => first | exact rfl | assumption); (case p0_u1 => exact List.Perm.refl _); (case h1_u1 => first | assumption | omega); (case h2_u1 => first | assumption | omega); (case h3_u1 => first | assumption | exact IsGd.mono (by assumption) (by k_sub)); (case d0_u1 => ktr_room); (case u0_u1 => ktr_units); k_whole); intro r9_u1 n9_u1 h9_u1 t9_u1 P9_u1 F9_u1 N9_u1; obtain ⟨e9_u1, t8_u1, e8_u1⟩ := P9_u1; subst n9_u1; subst e8_u1; (try k_sweep); (try dsimp only); (try k_fold))
  k_with "call ref" => (k_here; (with_reducible show wpAny _ _ (call (Value.ref 504) _) _ _ _); k_dflt (refine' use_spec (glyph_class_m _ _ _ _ _ ?h1_u2 ?h2_u2 ?h3_u2) ?p0_u2 ?B0_u2 ?F0_u2 ?X0_u2 ?N0_u2 ?T0_u2 ?k0_u2 ?d0_u2 ?u0_u2 ?_; (case B0_u2 => k_asm); (case F0_u2 => k_asm); (case X0_u2 => k_asm); (case N0_u2 => k_asm); (case T0_u2 => k_asm); (case k0_u2 => first | exact rfl | assumption); (case p0_u2 => exact List.Perm.refl _); (case h1_u2 => first | assumption | omega); (case h2_u2 => first | assumption | omega); (case h3_u2 => first | assumption | exact IsGd.mono (by assumption) (by k_sub)); (case d0_u2 => ktr_room); (case u0_u2 => ktr_units); k_whole); intro r9_u2 n9_u2 h9_u2 t9_u2 P9_u2 F9_u2 N9_u2; obtain ⟨e9_u2, t8_u2, e8_u2⟩ := P9_u2; subst n9_u2; subst e8_u2; (try k_sweep); (try dsimp only); (try k_fold))
  k_with "call ref" => (k_here; (with_reducible show wpAny _ _ (call (Value.ref 130) _) _ _ _); k_dflt (refine' use_spec (class_bit_ok _ _ _ _ ?h1_u0) ?p0_u0 ?B0_u0 ?F0_u0 ?X0_u0 ?N0_u0 ?T0_u0 ?k0_u0 ?d0_u0 ?u0_u0 ?_; (case B0_u0 => k_asm); (case F0_u0 => k_asm); (case X0_u0 => k_asm); (case N0_u0 => k_asm); (case T0_u0 => k_asm); (case k0_u0 => first | exact rfl | assumption); (case p0_u0 => exact List.Perm.refl _); (case h1_u0 => first | exact .inl rfl | exact .inr rfl | omega); (case d0_u0 => ktr_room); (case u0_u0 => ktr_units); k_whole); intro r9_u0 n9_u0 h9_u0 t9_u0 P9_u0 F9_u0 N9_u0; obtain ⟨e9_u0, t8_u0, e8_u0⟩ := P9_u0; subst n9_u0; subst e8_u0; (try simp only [reduceIte]); (try k_sweep); (try dsimp only); (try k_fold))
  have hd0 := hd
  obtain ⟨cd, cm, ⟨d1, r1, r2, r3, r4, q0, q1, q2, q3, q4, m3, m4⟩, -, -⟩ := hd0
  obtain ⟨d, k0, v0, k1, v1, k2, v2, k3, m1, m2⟩ := hk
  unfold Spec
  intro mean mg mb dp un gdd cn cs a ccd cl outer A₀ base h₀ L m s Q E B F X N T hk' hR hU hret
  by_cases h3 : g ≤ 3
  · rcases hf with rfl | rfl
    all_goals
      refine wpAny_call ?_
      k_dflt ktr_enter
      k_steps
      exact hret _ led _ _ ⟨rfl, by simp; try omega⟩ (by k_asm) (by k_asm)
  · rcases hf with rfl | rfl
    all_goals
      refine wpAny_call ?_
      k_dflt ktr_enter
      k_steps
      exact hret _ led _ _ ⟨rfl, by simp; try omega⟩ (by k_asm) (by k_asm)
local macro_rules | `(tactic| walk_at "subscriptTail") => `(tactic| (k_here; (with_reducible show wpAny _ _ (subscriptTail _ _ (Value.ref _) (Value.int _ _)) _ _ _); k_dflt (refine' row_item ?X ?N ?m ?z ?g ?a ?b ?_; (case X | N => k_asm); (case m => k_mem); (case z | g => assumption); (case a | b => omega); k_whole); intro r8 hr8 hx8 hd8 hg8 hh8))
set_option maxHeartbeats 8000000 in
theorem passes_ok (w : World) (rest : Led) (rs : List IR) (sc buf row gd lks lk tabs : Addr) (kd : Str) (f k : Int) (t : Tok) (hf : f = 0 ∨ f = 8) (hS : Sc w rest rs sc buf row gd lks lk tabs kd f) (h0 : 0 ≤ k) (h1 : k < (rs.length : Int)) :
    Spec w 144 [.ref sc, .int k t] (rowsLed w.params rs ++ rest) 4 32 (fun r n => n = rowsLed w.params rs ++ rest ∧ ∃ q, rs[k.toNat]? = some q ∧ r = .bool (decide (f = 8 ∧ 4 ≤ q.glyph))) := by
  k_with_none
  k_with "call ref" => (k_here; (with_reducible show wpAny _ _ (call (Value.ref 137) _) _ _ _); k_dflt (refine' use_spec (is_ignored_ok _ _ _ _ _ _ _ _ _ ?h1_u3 ?h2_u3 ?h3_u3 ?h4_u3 ?h5_u3) ?p0_u3 ?B0_u3 ?F0_u3 ?X0_u3 ?N0_u3 ?T0_u3 ?k0_u3 ?d0_u3 ?u0_u3 ?_; (case B0_u3 => k_asm); (case F0_u3 => k_asm); (case X0_u3 => k_asm); (case N0_u3 => k_asm); (case T0_u3 => k_asm); (case k0_u3 => first | exact rfl | assumption); (case p0_u3 => exact List.Perm.refl _); (case h4_u3 => first | assumption | exact IsGd.mono (by assumption) (by k_sub)); (case h5_u3 => first | assumption | exact IsLookup.mono (by assumption) (by k_sub)); (case h1_u3 => first | assumption | exact .inl rfl | exact .inr rfl); (case h2_u3 => first | assumption | omega); (case h3_u3 => first | assumption | omega); (case d0_u3 => ktr_room); (case u0_u3 => ktr_units); k_whole); intro r9_u3 n9_u3 h9_u3 t9_u3 P9_u3 F9_u3 N9_u3; obtain ⟨e9_u3, e8_u3⟩ := P9_u3; subst n9_u3; subst e8_u3; (try k_sweep); (try dsimp only); (try k_fold))
  have hgd : IsGd w (rowsLed w.params rs ++ rest) gd := hS.gd.mono fun p h => List.mem_append_right _ h
  have hlk : IsLookup w.params (rowsLed w.params rs ++ rest) lk kd f tabs := hS.lk.mono fun p h => List.mem_append_right _ h
  obtain ⟨⟨sd, r6, k0, k1, k2, k3, k4, v4, k5, v5, k6, m1, m2⟩, ⟨bd, q0, q1, q2, u2, q3, u3, m3, m4⟩, -, -, ⟨ep, m5⟩, hGL, hlen⟩ := hS
  unfold Spec
  intro mean mg mb dp un gdd cn cs a ccd cl outer A₀ base h₀ L m s Q E B F X N T hk' hR hU hret
  refine wpAny_call ?_
  k_dflt ktr_enter
  k_steps
  exact hret _ _ _ _ ⟨rfl, _, by assumption, rfl⟩ (by k_asm) (by k_asm)
local macro_rules | `(tactic| walk_at "subscriptTail Attribute") => `(tactic| (k_here; k_dflt (refine kba_turn (value' := PySem.Expr.Name (PySem.Str.ofString "_") ⟨0, 0, 0, 0⟩) (fun _ => rfl) ?_)))
local macro_rules | `(tactic| walk_at "subscriptTail Name Name ref int") => `(tactic| walk_at "subscriptTail")
local macro_rules | `(tactic| walk_at "call builtin:len") => `(tactic| (k_here; (with_reducible show wpAny _ _ (call (Value.builtin "len") [Value.ref _]) _ _ _); k_dflt (refine' len_row ?N ?m ?f ?_; (case N => k_asm); (case m => k_mem); (case f => walk_at "z5"); k_whole)))
local macro_rules | `(tactic| walk_at "subscriptTail") => `(tactic| (k_here; (with_reducible show wpAny _ _ (subscriptTail _ _ (Value.ref _) (Value.int _ _)) _ _ _); k_dflt (refine' row_item ?X ?N ?m ?z ?g ?a ?b ?_; (case X | N => k_asm); (case m => k_mem); (case z | g => assumption); (case a | b => omega); k_whole); intro r8 hr8 hx8 hd8 hg8 hh8))
local macro_rules | `(tactic| walk_at "subscriptTail") => `(tactic| (k_here; (with_reducible show wpAny _ _ (subscriptTail _ _ (Value.ref _) (Value.int _ _)) _ _ _); k_dflt (refine' row_at ?X ?N ?m ?z ?g ?a ?b ?_; (case X | N => k_asm); (case m => k_mem); (case z | g => assumption); (case a => omega); (case b => assumption); k_whole); intro hx8 hd8 hg8 hh8))
local macro_rules | `(tactic| walk_at "exec While Compare cons nil") => `(tactic| k_extra "exec While Compare cons nil")
local macro_rules | `(tactic| walk_at "exec While BoolOp cons nil") => `(tactic| k_extra "exec While BoolOp cons nil")
local macro_rules | `(tactic| walk_at "exec For Name Call cons nil") => `(tactic| k_extra "exec For Name Call cons nil")
local macro_rules | `(tactic| walk_at "exec For Name Name cons nil") => `(tactic| k_extra "exec For Name Name cons nil")
local macro_rules | `(tactic| walk_at "pyIter ref") => `(tactic| k_extra "pyIter ref")
local macro_rules | `(tactic| walk_at "WhW ret") => `(tactic| dsimp only [WhW])
local macro_rules | `(tactic| walk_at "WhW brk") => `(tactic| dsimp only [WhW])
local macro_rules | `(tactic| walk_at "ForW ret") => `(tactic| dsimp only [ForW])
local macro_rules | `(tactic| walk_at "ForW brk") => `(tactic| dsimp only [ForW])
local macro_rules | `(tactic| walk_at "compareOp NotIn str ref") => `(tactic| (k_here; k_dflt (refine' notin_kinds ?F ?X ?l ?_; (case F | X => k_asm); (case l => k_is); k_whole)))
set_option maxHeartbeats 8000000 in
theorem neighbour_ok (w : World) (rest : Led) (rs : List IR) (sc buf row gd lks lk tabs : Addr) (kd : Str) (f k : Int) (t t2 : Tok) (hf : f = 0 ∨ f = 8) (hS : Sc w rest rs sc buf row gd lks lk tabs kd f) (h0 : 0 ≤ k) (h1 : k ≤ (rs.length : Int)) :
    Spec w 245 [.ref sc, .int k t, .int (-1) t2] (rowsLed w.params rs ++ rest) 5 40 (fun r n => n = rowsLed w.params rs ++ rest ∧ ∃ t', r = .int (nb f rs k.toNat) t') := by
  have hS0 := hS
  obtain ⟨⟨sd, r6, k0, k1, k2, k3, k4, v4, k5, v5, k6, m1, m2⟩, ⟨bd, q0, q1, q2, u2, q3, u3, m3, m4⟩, -, -, ⟨ep, m5⟩, hGL, hlen⟩ := hS
  unfold Spec
  intro mean mg mb dp un gdd cn cs a ccd cl outer A₀ base h₀ L m s Q E B F X N T hk' hR hU hret
  k_with_none
  k_with "call ref" => (k_here; (with_reducible show wpAny _ _ (call (Value.ref 144) _) _ _ _); k_dflt (refine' use_spec (passes_ok _ _ _ _ _ _ _ _ _ _ _ _ _ _ ?h1_u4 ?h2_u4 ?h3_u4 ?h4_u4) ?p0_u4 ?B0_u4 ?F0_u4 ?X0_u4 ?N0_u4 ?T0_u4 ?k0_u4 ?d0_u4 ?u0_u4 ?_; (case B0_u4 => k_asm); (case F0_u4 => k_asm); (case X0_u4 => k_asm); (case N0_u4 => k_asm); (case T0_u4 => k_asm); (case k0_u4 => first | exact rfl | assumption); (case p0_u4 => tb_rel); (case h2_u4 => first | assumption | exact Sc.mono (by assumption) (by k_sub)); (case h1_u4 => first | assumption | exact .inl rfl | exact .inr rfl); (case h3_u4 => first | assumption | omega); (case h4_u4 => first | assumption | omega); (case d0_u4 => ktr_room); (case u0_u4 => ktr_units); k_whole); intro r9_u4 n9_u4 h9_u4 t9_u4 P9_u4 F9_u4 N9_u4; obtain ⟨e9_u4, q8_u4, hq8_u4, e8_u4⟩ := P9_u4; subst n9_u4; subst e8_u4; (try k_sweep); (try dsimp only); (try k_fold))
  k_with "exec While Compare cons nil" => (
    (refine' while_st (σ := Int × Tok) (fun m₀ c z => if z = Str.ofString "here" then some (.int c.1 c.2) else m₀ z) (fun _ => rowsLed w.params rs ++ rest)
      (fun c => -1 ≤ c.1 ∧ c.1 < k ∧ nb f rs (c.1 + 1).toNat = nb f rs k.toNat) (fun c => (c.1 + 1).toNat) (c₀ := (_, _)) ?F ?N ?hP ?turn); (case F => k_asm); (case N => k_asm); k_whole;
    (case hP => exact ⟨by dsimp only; omega, by dsimp only; omega, by dsimp only; rw [show k + -1 + 1 = k by omega]⟩);
    rintro ⟨k9, t9⟩ hh9 tk9 ⟨ha9, hb9, hn9⟩ F9 N9; dsimp only at ha9 hb9 hn9 F9)
  refine wpAny_call ?_
  k_dflt ktr_enter
  k_steps
  · rename rs[_]? = some _ => hq
    rename (f = 8 ∧ _) => hd
    have e := nb_step (f := f) (by omega) hq
    exact WhW.go (_, _) (fr_put (by k_asm)) (by k_asm) (by dsimp only; omega) ⟨by dsimp only; omega, by dsimp only; omega, by dsimp only; rw [show k9 + -1 + 1 = k9 by omega]; rw [e, if_pos hd] at hn9; exact hn9⟩
  · rename rs[_]? = some _ => hq
    rename ¬(f = 8 ∧ _) => hd
    have e := nb_step (f := f) (by omega) hq
    have e2 : nb f rs k.toNat = k9 := by rw [← hn9, e, if_neg hd]
    exact hret _ _ _ _ ⟨rfl, t9, congrArg (fun z => Value.int z t9) e2.symm⟩ (by k_asm) (by k_asm)
  · have e2 : nb f rs k.toNat = -1 := by rw [← hn9, show (k9 + 1).toNat = 0 by omega]; rfl
    exact hret _ _ _ _ ⟨rfl, _, congrArg (fun z => Value.int z _) e2.symm⟩ (by k_asm) (by k_asm)
theorem nb_lo (f : Int) (rs : List IR) : ∀ k : Nat, -1 ≤ nb f rs k ∧ nb f rs k < k
  | 0 => ⟨Int.le_refl _, by show (-1 : Int) < 0; omega⟩
  | k + 1 => by
    have h := nb_lo f rs k
    show -1 ≤ (match rs[k]? with | some q => if f = 8 ∧ 4 ≤ q.glyph then nb f rs k else ((k : Nat) : Int) | none => -1) ∧ (match rs[k]? with | some q => if f = 8 ∧ 4 ≤ q.glyph then nb f rs k else ((k : Nat) : Int) | none => -1) < ((k + 1 : Nat) : Int)
    split
    · split <;> omega
    · omega
set_option maxHeartbeats 8000000 in
theorem before_at_ok (w : World) (rest : Led) (rs : List IR) (sc buf row gd lks lk tabs : Addr) (kd : Str) (f k : Int) (t : Tok) (hf : f = 0 ∨ f = 8) (hS : Sc w rest rs sc buf row gd lks lk tabs kd f) (h0 : 0 ≤ k) (h1 : k ≤ (rs.length : Int)) :
    Spec w 252 [.ref sc, .int k t] (rowsLed w.params rs ++ rest) 6 48 (fun r n => n = rowsLed w.params rs ++ rest ∧ ∃ t', r = .int (nb f rs k.toNat) t') := by
  k_with_none
  k_with "call ref" => (k_here; (with_reducible show wpAny _ _ (call (Value.ref 245) _) _ _ _); k_dflt (refine' use_spec (neighbour_ok _ _ _ _ _ _ _ _ _ _ _ _ _ _ _ ?h1_u5 ?h2_u5 ?h3_u5 ?h4_u5) ?p0_u5 ?B0_u5 ?F0_u5 ?X0_u5 ?N0_u5 ?T0_u5 ?k0_u5 ?d0_u5 ?u0_u5 ?_; (case B0_u5 => k_asm); (case F0_u5 => k_asm); (case X0_u5 => k_asm); (case N0_u5 => k_asm); (case T0_u5 => k_asm); (case k0_u5 => first | exact rfl | assumption); (case p0_u5 => tb_rel); (case h2_u5 => first | assumption | exact Sc.mono (by assumption) (by k_sub)); (case h1_u5 => first | assumption | exact .inl rfl | exact .inr rfl); (case h3_u5 => first | assumption | omega); (case h4_u5 => first | assumption | omega); (case d0_u5 => ktr_room); (case u0_u5 => ktr_units); k_whole); intro r9_u5 n9_u5 h9_u5 t9_u5 P9_u5 F9_u5 N9_u5; obtain ⟨e9_u5, t8_u5, e8_u5⟩ := P9_u5; subst n9_u5; subst e8_u5; (try k_sweep); (try dsimp only); (try k_fold))
  unfold Spec
  intro mean mg mb dp un gdd cn cs a ccd cl outer A₀ base h₀ L m s Q E B F X N T hk' hR hU hret
  refine wpAny_call ?_
  k_dflt ktr_enter
  k_steps
  exact hret _ _ _ _ ⟨rfl, _, rfl⟩ (by k_asm) (by k_asm)
theorem Sc.other {w : World} {ext led : Led} {rs : List IR} {sc buf row gd lks lk tabs sc' lk' tabs' : Addr} {kd : Str} {f f' : Int} (h : Sc w led rs sc buf row gd lks lk tabs kd f) (a : IsScene w.params ext sc' buf gd lks lk') (b : IsLookup w.params ext lk' kd f' tabs') :
    Sc w (ext ++ led) rs sc' buf row gd lks lk' tabs' kd f' :=
  let h' := h.mono (led' := ext ++ led) fun p q => List.mem_append_right _ q
  ⟨a.mono fun p q => List.mem_append_left _ q, h'.buf, h'.gd, b.mono fun p q => List.mem_append_left _ q, h'.row, h'.gl, h'.len⟩
set_option maxHeartbeats 8000000 in
theorem scene_with_ok (w : World) (led : Led) (sc buf gd lks lk tabs : Addr) (kd : Str) (f f' : Int) (t t' : Tok) (hs : IsScene w.params led sc buf gd lks lk) (hl : IsLookup w.params led lk kd f tabs) :
    Spec w 351 [.ref sc, .int f' t, .int 0 t'] led 4 32 (fun r n => ∃ (ext : Led) (sc' lk' tabs' : Addr), r = .ref sc' ∧ n = ext ++ led ∧ IsScene w.params ext sc' buf gd lks lk' ∧ IsLookup w.params ext lk' kd f' tabs' ∧ (ND led → ND (ext ++ led))) := by
  obtain ⟨sd, r6, k0, k1, k2, k3, k4, v4, k5, v5, k6, m1, m2⟩ := hs
  obtain ⟨d, q0, v0, q1, v1, q2, v2, q3, m3, m4⟩ := hl
  unfold Spec
  intro mean mg mb dp un gdd cn cs a ccd cl outer A₀ base h₀ L m s Q E B F X N T hk' hR hU hret
  refine wpAny_call ?_
  k_dflt ktr_enter
  k_steps
  refine' hret _ _ _ _ ⟨[_, _, _, _, _, _], _, _, _, rfl, rfl, ?s1, ?s2, fun nd => ?s3⟩ (by k_asm) (by k_asm)
  case s1 => (refine' ⟨_, _, _, _, _, _, _, _, _, _, _, ?a1, ?a2⟩; (case a1 => k_mem); (case a2 => k_mem))
  case s2 => (refine' ⟨_, _, _, _, _, _, _, _, ?a1, ?a2⟩; (case a1 => k_mem); (case a2 => k_mem))
  case s3 =>
    show ND (_ :: _ :: _ :: _ :: _ :: _ :: led)
    k_ownIn
set_option maxHeartbeats 8000000 in
theorem is_later_ok (w : World) (rest : Led) (rs : List IR) (sc buf row gd lks lk tabs : Addr) (kd : Str) (f k : Int) (t : Tok) (hS : Sc w rest rs sc buf row gd lks lk tabs kd f) (h0 : 0 ≤ k) (h1 : k < (rs.length : Int)) :
    Spec w 365 [.ref sc, .int k t] (rowsLed w.params rs ++ rest) 4 32 (fun r n => n = rowsLed w.params rs ++ rest ∧ r = .bool false) := by
  obtain ⟨⟨sd, r6, k0, k1, k2, k3, k4, v4, k5, v5, k6, m1, m2⟩, ⟨bd, q0, q1, q2, u2, q3, u3, m3, m4⟩, -, -, ⟨ep, m5⟩, hGL, hlen⟩ := hS
  unfold Spec
  intro mean mg mb dp un gdd cn cs a ccd cl outer A₀ base h₀ L m s Q E B F X N T hk' hR hU hret
  refine wpAny_call ?_
  k_dflt ktr_enter
  k_steps
  all_goals exact hret _ _ _ _ ⟨rfl, rfl⟩ (by k_asm) (by k_asm)
theorem sub_mid {a b c : Led} : ∀ p ∈ a ++ c, p ∈ a ++ (b ++ c) := fun p h => by
  rcases List.mem_append.mp h with h | h
  · exact List.mem_append_left _ h
  · exact List.mem_append_right _ (List.mem_append_right _ h)
set_option maxHeartbeats 8000000 in
theorem base_ahead_ok (w : World) (rest : Led) (rs : List IR) (sc buf row gd lks lk tabs : Addr) (kd : Str) (f k : Int) (t : Tok) (hS : Sc w rest rs sc buf row gd lks lk tabs kd f) (h0 : 0 ≤ k) (h1 : k < (rs.length : Int)) :
    Spec w 372 [.ref sc, .int k t] (rowsLed w.params rs ++ rest) 7 56 (fun r n => n = rowsLed w.params rs ++ rest ∧ ∃ t', r = .int (nb 8 rs k.toNat) t') := by
  have hs : IsScene w.params (rowsLed w.params rs ++ rest) sc buf gd lks lk := hS.scene.mono fun p h => List.mem_append_right _ h
  have hl : IsLookup w.params (rowsLed w.params rs ++ rest) lk kd f tabs := hS.lk.mono fun p h => List.mem_append_right _ h
  have hb := nb_lo 8 rs k.toNat
  have hlen := hS.len
  unfold Spec
  intro mean mg mb dp un gdd cn cs a ccd cl outer A₀ base h₀ L m s Q E B F X N T hk' hR hU hret
  k_with_none
  k_with "call ref" => (k_here; (with_reducible show wpAny _ _ (call (Value.ref 252) _) _ _ _); k_dflt (refine' use_spec (before_at_ok _ _ _ _ _ _ _ _ _ _ _ _ _ _ ?h1_u6 ?h2_u6 ?h3_u6 ?h4_u6) ?p0_u6 ?B0_u6 ?F0_u6 ?X0_u6 ?N0_u6 ?T0_u6 ?k0_u6 ?d0_u6 ?u0_u6 ?_; (case B0_u6 => k_asm); (case F0_u6 => k_asm); (case X0_u6 => k_asm); (case N0_u6 => k_asm); (case T0_u6 => k_asm); (case k0_u6 => first | exact rfl | assumption); (case p0_u6 => tb_rel); (case h2_u6 => first | assumption | exact Sc.other (by assumption) (by assumption) (by assumption) | exact Sc.mono (by assumption) (by k_sub)); (case h1_u6 => first | assumption | exact .inl rfl | exact .inr rfl); (case h3_u6 => first | assumption | omega); (case h4_u6 => first | assumption | omega); (case d0_u6 => ktr_room); (case u0_u6 => ktr_units); k_whole); intro r9_u6 n9_u6 h9_u6 t9_u6 P9_u6 F9_u6 N9_u6; obtain ⟨e9_u6, t8_u6, e8_u6⟩ := P9_u6; subst n9_u6; subst e8_u6; (try k_sweep); (try dsimp only); (try k_fold))
  k_with "call ref" => (k_here; (with_reducible show wpAny _ _ (call (Value.ref 351) _) _ _ _); k_dflt (refine' use_spec (scene_with_ok _ _ _ _ _ _ _ _ _ _ _ _ _ ?h1_u7 ?h2_u7) ?p0_u7 ?B0_u7 ?F0_u7 ?X0_u7 ?N0_u7 ?T0_u7 ?k0_u7 ?d0_u7 ?u0_u7 ?_; (case B0_u7 => k_asm); (case F0_u7 => k_asm); (case X0_u7 => k_asm); (case N0_u7 => k_asm); (case T0_u7 => k_asm); (case k0_u7 => first | exact rfl | assumption); (case p0_u7 => exact List.Perm.refl _); (case h1_u7 => first | assumption | exact IsScene.mono (by assumption) (by k_sub)); (case h2_u7 => first | assumption | exact IsLookup.mono (by assumption) (by k_sub)); (case d0_u7 => ktr_room); (case u0_u7 => ktr_units); k_whole); intro r9_u7 n9_u7 h9_u7 t9_u7 P9_u7 F9_u7 N9_u7; obtain ⟨ext8_u7, sc8_u7, lk8_u7, tb8_u7, e8_u7, e9_u7, is8_u7, il8_u7, nd8_u7⟩ := P9_u7; subst n9_u7; subst e8_u7; (try (have nd7_u7 := nd8_u7 (by assumption))); (try k_sweep); (try dsimp only); (try k_fold))
  k_with "call ref" => (k_here; (with_reducible show wpAny _ _ (call (Value.ref 365) _) _ _ _); k_dflt (refine' use_spec (is_later_ok _ _ _ _ _ _ _ _ _ _ _ _ _ _ ?h2_u8 ?h3_u8 ?h4_u8) ?p0_u8 ?B0_u8 ?F0_u8 ?X0_u8 ?N0_u8 ?T0_u8 ?k0_u8 ?d0_u8 ?u0_u8 ?_; (case B0_u8 => k_asm); (case F0_u8 => k_asm); (case X0_u8 => k_asm); (case N0_u8 => k_asm); (case T0_u8 => k_asm); (case k0_u8 => first | exact rfl | assumption); (case p0_u8 => tb_rel); (case h2_u8 => first | assumption | exact Sc.mono (by assumption) (by k_sub) | exact Sc.mono (by assumption) (fun _ h => List.mem_append_right _ h)); (case h3_u8 => first | assumption | omega); (case h4_u8 => first | assumption | omega); (case d0_u8 => ktr_room); (case u0_u8 => ktr_units); k_whole); intro r9_u8 n9_u8 h9_u8 t9_u8 P9_u8 F9_u8 N9_u8; obtain ⟨e9_u8, e8_u8⟩ := P9_u8; subst n9_u8; subst e8_u8; (try k_sweep); (try dsimp only); (try k_fold))
  k_with "exec While BoolOp cons nil" => (
    (rename News _ _ _ _ => N8); (rename Fr _ _ _ _ => F8);
    (refine while_st (σ := Unit) (fun m₀ c z => m₀ z) (fun _ => _) (fun c => True) (fun c => 0) (c₀ := ()) F8 N8 trivial ?_);
    intro c9 hh9 tk9 hc9 F9 N9)
  refine wpAny_call ?_
  k_dflt ktr_enter
  k_steps
  all_goals exact hret _ _ _ _ ⟨rfl, _, rfl⟩ (by k_asm) (News.sub (by k_asm) sub_mid)
theorem SameX.at {rs rs1 : List IR} {i : Nat} {r : IR} (h : SameX rs rs1) (hr : rs[i]? = some r) : ∃ r1, rs1[i]? = some r1 ∧ r1.x = r.x ∧ r1.d = r.d := by
  have e := congrArg (·[i]?) h
  simp only [List.getElem?_map, hr, Option.map_some] at e
  cases h1 : rs1[i]? with
  | none => rw [h1] at e; cases e
  | some r1 => rw [h1] at e; simp only [Option.map_some, Option.some.injEq, Prod.mk.injEq] at e; exact ⟨r1, rfl, e.1, e.2⟩
theorem same_row {led : Led} {row : Addr} {ep : Nat} {a b : List IR} (h : (row, listOf (rowOf a).toArray ep) ∈ led) (e : SameX a b) : (row, listOf (rowOf b).toArray ep) ∈ led := by rw [e.row]; exact h
theorem GL.set {rs : List IR} {i : Nat} {r r' : IR} (h : GL rs) (hr : rs[i]? = some r) (hg : r'.glyph = r.glyph) : GL (rs.set i r') := fun q hq => by
  rcases List.mem_or_eq_of_mem_set hq with hq | rfl
  · exact h q hq
  · rw [hg]; exact h r (List.mem_of_getElem? hr)
section
variable {prog : Program} {w : World} {A A₀ : Around} {E : Value → Shared → Prop} {s : Shared} {K : Frag} {L x : Addr} {h₀ : Heap} {m : Str → Option Value} {cur rest : Led} {rs : List IR} {i : Nat} {r r' : IR} {name : Str} {v : Value}
theorem set_row {Q : Unit → Shared → Prop} (F : Fr h₀ L s.heap m) (X₀ : K.In h₀) (N : News h₀ L s.heap cur) (hp : cur.Perm (rowsLed w.params rs ++ rest)) (nd : ND (rowsLed w.params rs ++ rest)) (hr : rs[i]? = some r) (hxx : r.x = x)
    (hs : findIn K (.ref 175) "__setattr__" = some (some (.builtin "object.__setattr__"))) (hpl : plainOver K 175 = true) (ht : takerIn K 175 name = some none) (hh : hasDictIn K 175 = true) (hl : (getL name (infoEs w.params r)).isSome = true)
    (e : (putL name (PyData.keyHash w.params name) (.str name (s.toks + 1)) v (infoEs w.params r), putN name (infoEs w.params r) 16) = (infoEs w.params r', 16)) (hx : r'.x = r.x) (hd : r'.d = r.d) (hg : r'.glyph = r.glyph)
    (h : ∀ h' rs1, rs1 = rs.set i r' → SameX rs rs1 → rs1.length = rs.length → (GL rs → GL rs1) → ND (rowsLed w.params rs1 ++ rest) → rs1[i]? = some r' → (x, instObj 175 r.d) ∈ rowsLed w.params rs1 → (r.d, dictOf (infoEs w.params r') 16) ∈ rowsLed w.params rs1 → Fr h₀ L h' m → News h₀ L h' (rowsLed w.params rs1 ++ rest) → Q () { s with heap := h', toks := s.toks + 2 }) :
    wpAny (model prog w) A (setAttr (.ref x) name v) Q E s := by
  subst hxx
  have nd1 : ND ((r.x, instObj 175 r.d) :: (r.d, dictOf (infoEs w.params r) 16) :: others w.params rs i rest) := nd.perm (focus hr)
  have N1 : News h₀ L s.heap ((r.x, instObj 175 r.d) :: (r.d, dictOf (infoEs w.params r) 16) :: others w.params rs i rest) := nperm (hp.trans (focus hr)) N
  have sx : SameX rs (rs.set i r') := SameX.set hr hx hd
  have hi : i < rs.length := (List.getElem?_eq_some_iff.mp hr).1
  have hr1 : (rs.set i r')[i]? = some r' := by rw [List.getElem?_set_self hi]
  have mx := rows_x (P := w.params) (List.mem_of_getElem? hr1)
  have md := rows_d (P := w.params) (List.mem_of_getElem? hr1)
  rw [hx, hd] at mx
  rw [hd] at md
  refine set_dict (news' := (r.x, instObj 175 r.d) :: (r.d, dictOf (infoEs w.params r') 16) :: others w.params rs i rest) F X₀ N1 (InstAt.of_news N1 (.head _) (.tail _ (.head _))) rfl hs hpl ht hh hl e (Upd.tail (fun q => ?_) (Upd.head nd1.tail.head)) (by show 16 ≤ 1000; decide) fun h' F' N' => ?_
  · exact nd1.head _ (.head _) q.symm
  · refine h h' _ rfl sx (List.length_set ..) (fun g => g.set hr hg) (sx.nd nd) hr1 mx md F' (nperm (unfocus hr).symm ?_)
    rw [hx, hd]; exact N'
theorem set_parent {k : Int} {t : Tok} {Q : Unit → Shared → Prop} (F : Fr h₀ L s.heap m) (X₀ : K.In h₀) (N : News h₀ L s.heap cur) (hp : cur.Perm (rowsLed w.params rs ++ rest)) (nd : ND (rowsLed w.params rs ++ rest)) (hr : rs[i]? = some r) (hxx : r.x = x)
    (hs : findIn K (.ref 175) "__setattr__" = some (some (.builtin "object.__setattr__"))) (hpl : plainOver K 175 = true) (ht : takerIn K 175 (Str.ofString "parent") = some none) (hh : hasDictIn K 175 = true)
    (h : ∀ h' rs1, rs1 = rs.set i { r with parent := k, v14 := t } → SameX rs rs1 → rs1.length = rs.length → (GL rs → GL rs1) → ND (rowsLed w.params rs1 ++ rest) → rs1[i]? = some { r with parent := k, v14 := t } → (x, instObj 175 r.d) ∈ rowsLed w.params rs1 → (r.d, dictOf (infoEs w.params { r with parent := k, v14 := t }) 16) ∈ rowsLed w.params rs1 → Fr h₀ L h' m → News h₀ L h' (rowsLed w.params rs1 ++ rest) → Q () { s with heap := h', toks := s.toks + 2 }) :
    wpAny (model prog w) A (setAttr (.ref x) (Str.ofString "parent") (.int k t)) Q E s := set_row (r' := { r with parent := k, v14 := t }) F X₀ N hp nd hr hxx hs hpl ht hh rfl rfl rfl rfl rfl h
theorem set_bond {k : Str} {t : Tok} {Q : Unit → Shared → Prop} (F : Fr h₀ L s.heap m) (X₀ : K.In h₀) (N : News h₀ L s.heap cur) (hp : cur.Perm (rowsLed w.params rs ++ rest)) (nd : ND (rowsLed w.params rs ++ rest)) (hr : rs[i]? = some r) (hxx : r.x = x)
    (hs : findIn K (.ref 175) "__setattr__" = some (some (.builtin "object.__setattr__"))) (hpl : plainOver K 175 = true) (ht : takerIn K 175 (Str.ofString "bond") = some none) (hh : hasDictIn K 175 = true)
    (h : ∀ h' rs1, rs1 = rs.set i { r with bond := k, v15 := t } → SameX rs rs1 → rs1.length = rs.length → (GL rs → GL rs1) → ND (rowsLed w.params rs1 ++ rest) → rs1[i]? = some { r with bond := k, v15 := t } → (x, instObj 175 r.d) ∈ rowsLed w.params rs1 → (r.d, dictOf (infoEs w.params { r with bond := k, v15 := t }) 16) ∈ rowsLed w.params rs1 → Fr h₀ L h' m → News h₀ L h' (rowsLed w.params rs1 ++ rest) → Q () { s with heap := h', toks := s.toks + 2 }) :
    wpAny (model prog w) A (setAttr (.ref x) (Str.ofString "bond") (.str k t)) Q E s := set_row (r' := { r with bond := k, v15 := t }) F X₀ N hp nd hr hxx hs hpl ht hh rfl rfl rfl rfl rfl h
theorem set_yo {k : Int} {t : Tok} {Q : Unit → Shared → Prop} (F : Fr h₀ L s.heap m) (X₀ : K.In h₀) (N : News h₀ L s.heap cur) (hp : cur.Perm (rowsLed w.params rs ++ rest)) (nd : ND (rowsLed w.params rs ++ rest)) (hr : rs[i]? = some r) (hxx : r.x = x)
    (hs : findIn K (.ref 175) "__setattr__" = some (some (.builtin "object.__setattr__"))) (hpl : plainOver K 175 = true) (ht : takerIn K 175 (Str.ofString "y_offset") = some none) (hh : hasDictIn K 175 = true)
    (h : ∀ h' rs1, rs1 = rs.set i { r with yo := k, v13 := t } → SameX rs rs1 → rs1.length = rs.length → (GL rs → GL rs1) → ND (rowsLed w.params rs1 ++ rest) → rs1[i]? = some { r with yo := k, v13 := t } → (x, instObj 175 r.d) ∈ rowsLed w.params rs1 → (r.d, dictOf (infoEs w.params { r with yo := k, v13 := t }) 16) ∈ rowsLed w.params rs1 → Fr h₀ L h' m → News h₀ L h' (rowsLed w.params rs1 ++ rest) → Q () { s with heap := h', toks := s.toks + 2 }) :
    wpAny (model prog w) A (setAttr (.ref x) (Str.ofString "y_offset") (.int k t)) Q E s := set_row (r' := { r with yo := k, v13 := t }) F X₀ N hp nd hr hxx hs hpl ht hh rfl rfl rfl rfl rfl h
theorem set_xo {k : Int} {t : Tok} {Q : Unit → Shared → Prop} (F : Fr h₀ L s.heap m) (X₀ : K.In h₀) (N : News h₀ L s.heap cur) (hp : cur.Perm (rowsLed w.params rs ++ rest)) (nd : ND (rowsLed w.params rs ++ rest)) (hr : rs[i]? = some r) (hxx : r.x = x)
    (hs : findIn K (.ref 175) "__setattr__" = some (some (.builtin "object.__setattr__"))) (hpl : plainOver K 175 = true) (ht : takerIn K 175 (Str.ofString "x_offset") = some none) (hh : hasDictIn K 175 = true)
    (h : ∀ h' rs1, rs1 = rs.set i { r with xo := k, v12 := t } → SameX rs rs1 → rs1.length = rs.length → (GL rs → GL rs1) → ND (rowsLed w.params rs1 ++ rest) → rs1[i]? = some { r with xo := k, v12 := t } → (x, instObj 175 r.d) ∈ rowsLed w.params rs1 → (r.d, dictOf (infoEs w.params { r with xo := k, v12 := t }) 16) ∈ rowsLed w.params rs1 → Fr h₀ L h' m → News h₀ L h' (rowsLed w.params rs1 ++ rest) → Q () { s with heap := h', toks := s.toks + 2 }) :
    wpAny (model prog w) A (setAttr (.ref x) (Str.ofString "x_offset") (.int k t)) Q E s := set_row (r' := { r with xo := k, v12 := t }) F X₀ N hp nd hr hxx hs hpl ht hh rfl rfl rfl rfl rfl h
theorem set_uns {b : Bool} {Q : Unit → Shared → Prop} (F : Fr h₀ L s.heap m) (X₀ : K.In h₀) (N : News h₀ L s.heap cur) (hp : cur.Perm (rowsLed w.params rs ++ rest)) (nd : ND (rowsLed w.params rs ++ rest)) (hr : rs[i]? = some r) (hxx : r.x = x)
    (hs : findIn K (.ref 175) "__setattr__" = some (some (.builtin "object.__setattr__"))) (hpl : plainOver K 175 = true) (ht : takerIn K 175 (Str.ofString "is_unsafe") = some none) (hh : hasDictIn K 175 = true)
    (h : ∀ h' rs1, rs1 = rs.set i { r with uns := b } → SameX rs rs1 → rs1.length = rs.length → (GL rs → GL rs1) → ND (rowsLed w.params rs1 ++ rest) → rs1[i]? = some { r with uns := b } → (x, instObj 175 r.d) ∈ rowsLed w.params rs1 → (r.d, dictOf (infoEs w.params { r with uns := b }) 16) ∈ rowsLed w.params rs1 → Fr h₀ L h' m → News h₀ L h' (rowsLed w.params rs1 ++ rest) → Q () { s with heap := h', toks := s.toks + 2 }) :
    wpAny (model prog w) A (setAttr (.ref x) (Str.ofString "is_unsafe") (.bool b)) Q E s := set_row (r' := { r with uns := b }) F X₀ N hp nd hr hxx hs hpl ht hh rfl rfl rfl rfl rfl h
end
local macro_rules | `(tactic| walk_at "setAttr ref") => `(tactic| k_extra "setAttr ref")
/-- one row set anew -/
structure Set1 (rs rs1 : List IR) (i : Nat) (r' : IR) : Prop where
  eq : rs1 = rs.set i r'
  sx : SameX rs rs1
  len : rs1.length = rs.length
  gl : GL rs → GL rs1
  at_ : rs1[i]? = some r'
theorem Set1.of {rs : List IR} {i : Nat} {r r' : IR} (hr : rs[i]? = some r) (hx : r'.x = r.x) (hd : r'.d = r.d) (hg : r'.glyph = r.glyph) : Set1 rs (rs.set i r') i r' :=
  ⟨rfl, SameX.set hr hx hd, List.length_set .., fun g => g.set hr hg, by rw [List.getElem?_set_self (List.getElem?_eq_some_iff.mp hr).1]⟩
theorem Set1.again {rs rs1 rs2 : List IR} {i : Nat} {r r' r'' : IR} (S : Set1 rs rs1 i r') (e : rs2 = rs1.set i r'') (hr : rs[i]? = some r) (hx : r''.x = r.x) (hd : r''.d = r.d) (hg : r''.glyph = r.glyph) : Set1 rs rs2 i r'' := by
  subst e
  rw [S.eq, List.set_set]
  exact Set1.of hr hx hd hg
def lsn (r : IR) (t t' : Tok) : IR := { r with parent := 0, v14 := t, bond := Str.ofString "", v15 := t' }
set_option maxHeartbeats 8000000 in
theorem loosen_ok (w : World) (rest : Led) (rs : List IR) (i : Nat) (r : IR) (x : Addr) (nd : ND (rowsLed w.params rs ++ rest)) (hr : rs[i]? = some r) (hx : r.x = x) :
    Spec w 259 [.ref x] (rowsLed w.params rs ++ rest) 1 8 (fun v n => v = .none ∧ ∃ rs1 t t', n = rowsLed w.params rs1 ++ rest ∧ Set1 rs rs1 i (lsn r t t')) := by
  k_with_none
  k_with "setAttr ref" => (k_here; (with_reducible show wpAny _ _ (setAttr (Value.ref _) (Str.ofString "bond") (Value.str _ _)) _ _ _); k_dflt (refine' set_bond ?F_u11 ?X_u11 ?N_u11 ?p_u11 ?nd_u11 ?hr_u11 ?hx_u11 ?k1_u11 ?k2_u11 ?k3_u11 ?k4_u11 ?_; (case F_u11 => k_asm); (case X_u11 => k_asm); (case N_u11 => k_asm); (case p_u11 => tb_rel); (case nd_u11 => first | assumption | (rename News _ _ _ _ => N7_u11; exact nd_of N7_u11 (by tb_rel) (by k_ownIn))); (case hr_u11 => assumption); (case hx_u11 => first | exact rfl | assumption); (case k1_u11 => k_is); (case k2_u11 => k_is); (case k3_u11 => k_is); (case k4_u11 => k_is); k_whole); intro hq_u11 rs1_u11 e1_u11 sx1_u11 ln1_u11 gl1_u11 nd1_u11 hr1_u11 mx1_u11 md1_u11 Fq_u11 Nq_u11; (try (have gl2_u11 := gl1_u11 (by assumption))); (try (have m2_u11 := same_row (by assumption) sx1_u11)); (try (have len2_u11 : List.length rs1_u11 < 100 := (by omega))); (try k_sweep))
  k_with "setAttr ref" => (k_here; (with_reducible show wpAny _ _ (setAttr (Value.ref _) (Str.ofString "parent") (Value.int _ _)) _ _ _); k_dflt (refine' set_parent ?F_u10 ?X_u10 ?N_u10 ?p_u10 ?nd_u10 ?hr_u10 ?hx_u10 ?k1_u10 ?k2_u10 ?k3_u10 ?k4_u10 ?_; (case F_u10 => k_asm); (case X_u10 => k_asm); (case N_u10 => k_asm); (case p_u10 => tb_rel); (case nd_u10 => first | assumption | (rename News _ _ _ _ => N7_u10; exact nd_of N7_u10 (by tb_rel) (by k_ownIn))); (case hr_u10 => assumption); (case hx_u10 => first | exact rfl | assumption); (case k1_u10 => k_is); (case k2_u10 => k_is); (case k3_u10 => k_is); (case k4_u10 => k_is); k_whole); intro hq_u10 rs1_u10 e1_u10 sx1_u10 ln1_u10 gl1_u10 nd1_u10 hr1_u10 mx1_u10 md1_u10 Fq_u10 Nq_u10; (try (have gl2_u10 := gl1_u10 (by assumption))); (try (have m2_u10 := same_row (by assumption) sx1_u10)); (try (have len2_u10 : List.length rs1_u10 < 100 := (by omega))); (try k_sweep))
  have mx := rows_x (P := w.params) (List.mem_of_getElem? hr)
  have md := rows_d (P := w.params) (List.mem_of_getElem? hr)
  have hr0 := hr
  rw [hx] at mx
  unfold Spec
  intro mean mg mb dp un gdd cn cs a ccd cl outer A₀ base h₀ L m s Q E B F X N T hk' hR hU hret
  refine wpAny_call ?_
  k_dflt ktr_enter
  k_steps
  subst_vars
  refine' hret _ _ _ _ ⟨rfl, _, _, _, rfl, ?e⟩ ?F ?N
  case F => k_asm
  case N => k_asm
  case e =>
    rw [List.set_set]
    exact Set1.of (r' := lsn _ _ _) hr0 rfl rfl rfl
/-! the parents, plainly -/
abbrev Par := List (Option Nat)
def nxt (ps : Par) (i : Nat) : Option Nat := match ps[i]? with | some o => o | none => none
def off (ps : Par) (i : Nat) : Int := match nxt ps i with | some g => (g : Int) - (i : Int) | none => 0
def OkP (ps : Par) : Prop := ∀ i g, nxt ps i = some g → g < ps.length ∧ g ≠ i
structure RelP (rs : List IR) (ps : Par) : Prop where
  len : rs.length = ps.length
  val : ∀ i r, rs[i]? = some r → r.parent = off ps i
  ok : OkP ps
def brk (ps : Par) (c : Nat) : Nat → Nat → Option Nat
  | 0, _ => none
  | n + 1, h => match nxt ps h with
    | none => none
    | some g => if g = c then some h else brk ps c n g
theorem off_zero {ps : Par} {i : Nat} (h : OkP ps) (e : off ps i = 0) : nxt ps i = none := by
  unfold off at e
  cases hn : nxt ps i with
  | none => rfl
  | some g => rw [hn] at e; have := (h i g hn).2; simp only at e; omega
theorem off_some {ps : Par} {i : Nat} (e : off ps i ≠ 0) : ∃ g, nxt ps i = some g ∧ off ps i = (g : Int) - (i : Int) := by
  unfold off at *
  cases hn : nxt ps i with
  | none => rw [hn] at e; exact absurd rfl e
  | some g => exact ⟨g, rfl, rfl⟩
def brkR (ps : Par) (c p : Nat) (rs rs1 : List IR) : Prop := match brk ps c rs.length p with
  | none => rs1 = rs
  | some i => ∃ r t t' t'', rs[i]? = some r ∧ Set1 rs rs1 i { lsn r t t' with yo := 0, v13 := t'' }
theorem brk_end {rs : List IR} {ps : Par} {c n k : Nat} {r : IR} (hR : RelP rs ps) (hr : rs[(n : Int).toNat]? = some r) (h0 : r.parent = 0) : brk ps c k n = none := by
  have e := hR.val n r (by simpa using hr)
  rw [h0] at e
  cases k with
  | zero => rfl
  | succ k => unfold brk; rw [off_zero hR.ok e.symm]
theorem brk_hit {rs : List IR} {ps : Par} {c n k : Nat} {r : IR} (hR : RelP rs ps) (hr : rs[(n : Int).toNat]? = some r) (h0 : ¬ r.parent = 0) (h1 : (n : Int) + r.parent = (c : Int)) (hk : 0 < k) : brk ps c k n = some n := by
  have e := hR.val n r (by simpa using hr)
  obtain ⟨g, hg, he⟩ := off_some (ps := ps) (i := n) (by rw [← e]; exact h0)
  obtain ⟨k, rfl⟩ : ∃ j, k = j + 1 := ⟨k - 1, by omega⟩
  unfold brk; rw [hg]
  show (if g = c then some n else brk ps c k g) = some n
  rw [if_pos (by omega)]
theorem brk_go {rs : List IR} {ps : Par} {c n k : Nat} {r : IR} (hR : RelP rs ps) (hr : rs[(n : Int).toNat]? = some r) (h0 : ¬ r.parent = 0) (h1 : ¬ (n : Int) + r.parent = (c : Int)) (hk : 0 < k) :
    ∃ g : Nat, (n : Int) + r.parent = (g : Int) ∧ g < rs.length ∧ brk ps c k n = brk ps c (k - 1) g := by
  have e := hR.val n r (by simpa using hr)
  obtain ⟨g, hg, he⟩ := off_some (ps := ps) (i := n) (by rw [← e]; exact h0)
  obtain ⟨k, rfl⟩ : ∃ j, k = j + 1 := ⟨k - 1, by omega⟩
  refine ⟨g, by omega, by rw [hR.len]; exact (hR.ok n g hg).1, ?_⟩
  conv => lhs; unfold brk
  rw [hg]
  show (if g = c then some n else brk ps c k g) = _
  rw [if_neg (by omega)]; rfl
theorem ND.mid {d : Addr} {o : Obj} {l l' : Led} (n : ND (l ++ l')) (h : ∀ p ∈ l ++ l', p.1 ≠ d) : ND (l ++ (d, o) :: l') := by
  refine ND.perm (List.perm_middle (l₁ := l)).symm ?_
  unfold ND at *
  rw [List.map_cons, List.nodup_cons]
  refine ⟨fun q => ?_, n⟩
  obtain ⟨p, hp, e⟩ := List.mem_map.mp q
  exact h p hp e
theorem brkR_none {ps : Par} {c p : Nat} {rs : List IR} (e : brk ps c rs.length p = none) : brkR ps c p rs rs := by unfold brkR; rw [e]
theorem brkR_some {ps : Par} {c p i : Nat} {rs rs1 : List IR} {r : IR} {t t' t'' : Tok} (e : brk ps c rs.length p = some i) (hr : rs[i]? = some r) (S : Set1 rs rs1 i { lsn r t t' with yo := 0, v13 := t'' }) : brkR ps c p rs rs1 := by unfold brkR; rw [e]; exact ⟨r, t, t', t'', hr, S⟩
theorem brkR.s1 {ps : Par} {c p : Nat} {rs rs1 : List IR} (h : brkR ps c p rs rs1) : rs1 = rs ∨ ∃ i r r', rs[i]? = some r ∧ Set1 rs rs1 i r' := by
  unfold brkR at h
  split at h
  · exact .inl h
  · obtain ⟨r, _, _, _, hr, S⟩ := h; exact .inr ⟨_, r, _, hr, S⟩
theorem brkR.sx {ps : Par} {c p : Nat} {rs rs1 : List IR} (h : brkR ps c p rs rs1) : SameX rs rs1 := by
  rcases h.s1 with rfl | ⟨_, _, _, _, S⟩
  · exact SameX.rfl'
  · exact S.sx
theorem brkR.gl {ps : Par} {c p : Nat} {rs rs1 : List IR} (h : brkR ps c p rs rs1) (g : GL rs) : GL rs1 := by
  rcases h.s1 with rfl | ⟨_, _, _, _, S⟩
  · exact g
  · exact S.gl g
theorem nat_at {rs : List IR} {n : Nat} {r : IR} (hr : rs[(n : Int).toNat]? = some r) : rs[n]? = some r := by simpa using hr
set_option maxHeartbeats 8000000 in
theorem break_ring_ok (w : World) (rest : Led) (rs : List IR) (ps : Par) (row : Addr) (c p : Nat) (t t2 : Tok) (nd : ND (rowsLed w.params rs ++ rest)) (hrow : IsRow rest row rs) (hG : GL rs) (hz : rs.length < 100) (hRel : RelP rs ps) (hc : c < rs.length) (hp : p < rs.length) :
    Spec w 266 [.ref row, .int (c : Int) t, .int (p : Int) t2] (rowsLed w.params rs ++ rest) 2 16 (fun v n => v = .none ∧ ∃ rs1, n = rowsLed w.params rs1 ++ rest ∧ brkR ps c p rs rs1) := by
  obtain ⟨ep, m5⟩ := hrow
  unfold Spec
  intro mean mg mb dp un gdd cn cs a ccd cl outer A₀ base h₀ L m s Q E B F X N T hk' hR hU hret
  k_with_none
  k_with "call ref" => (k_here; (with_reducible show wpAny _ _ (call (Value.ref 259) _) _ _ _); k_dflt (refine' use_spec (loosen_ok _ _ _ _ _ _ ?h1_u15 ?h2_u15 ?h3_u15) ?p0_u15 ?B0_u15 ?F0_u15 ?X0_u15 ?N0_u15 ?T0_u15 ?k0_u15 ?d0_u15 ?u0_u15 ?_; (case B0_u15 => k_asm); (case F0_u15 => k_asm); (case X0_u15 => k_asm); (case N0_u15 => k_asm); (case T0_u15 => k_asm); (case k0_u15 => first | exact rfl | assumption); (case p0_u15 => tb_rel); (case h1_u15 => first | assumption | (rename News _ _ _ _ => N7_u15; exact nd_of N7_u15 (by tb_rel) (by k_ownIn))); (case h2_u15 => assumption); (case h3_u15 => first | exact rfl | assumption); (case d0_u15 => ktr_room); (case u0_u15 => ktr_units); k_whole); intro r9_u15 n9_u15 h9_u15 t9_u15 P9_u15 F9_u15 N9_u15; obtain ⟨e8_u15, rs1_u15, t8_u15, t7_u15, e9_u15, S9_u15⟩ := P9_u15; subst n9_u15; subst e8_u15; (have ln1_u15 := S9_u15.len); (have gl2_u15 := S9_u15.gl (by assumption)); (try (have m2_u15 := same_row (by assumption) S9_u15.sx)); (have len2_u15 : List.length rs1_u15 < 100 := (by omega)); (have nd1_u15 := S9_u15.sx.nd (by assumption)); (have hr1_u15 := S9_u15.at_); (try k_sweep); (try dsimp only); (try k_fold))
  k_with "setAttr ref" => (k_here; (with_reducible show wpAny _ _ (setAttr (Value.ref _) (Str.ofString "y_offset") (Value.int _ _)) _ _ _); k_dflt (refine' set_yo ?F_u12 ?X_u12 ?N_u12 ?p_u12 ?nd_u12 ?hr_u12 ?hx_u12 ?k1_u12 ?k2_u12 ?k3_u12 ?k4_u12 ?_; (case F_u12 => k_asm); (case X_u12 => k_asm); (case N_u12 => k_asm); (case p_u12 => tb_rel); (case nd_u12 => first | assumption | (rename News _ _ _ _ => N7_u12; exact nd_of N7_u12 (by tb_rel) (by k_ownIn))); (case hr_u12 => assumption); (case hx_u12 => first | exact rfl | assumption); (case k1_u12 => k_is); (case k2_u12 => k_is); (case k3_u12 => k_is); (case k4_u12 => k_is); k_whole); intro hq_u12 rs1_u12 e1_u12 sx1_u12 ln1_u12 gl1_u12 nd1_u12 hr1_u12 mx1_u12 md1_u12 Fq_u12 Nq_u12; (try (have gl2_u12 := gl1_u12 (by assumption))); (try (have m2_u12 := same_row (by assumption) sx1_u12)); (try (have len2_u12 : List.length rs1_u12 < 100 := (by omega))); (try k_sweep))
  k_with "exec For Name Call cons nil" => (k_here; (rename Fr _ _ _ _ => lF'); (with_unfolding_all refine' For_invVF lF' ?k1 ?k2 ?_; (case k1 => exact rfl); (case k2 => exact rfl); k_whole))
  k_with "pyIter ref" => (
    (rename Fr _ _ _ _ => lF'); (rename News _ _ _ _ => lN'); (rename IsRange _ _ _ _ _ _ _ _ => rgX);
    (with_unfolding_all refine' for_range (σ := Int × Tok) (fun m₀ c z => if z = Str.ofString "here" then some (.int c.1 c.2) else m₀ z) (fun _ => rowsLed w.params rs ++ rest) (fun i s => ∃ h : Nat, s.1 = (h : Int) ∧ h < rs.length ∧ brk ps c (rs.length - i) h = brk ps c rs.length p) (c₀ := (_, _)) (by rfl) rgX (small_one (by l_bnd) (by l_bnd) (by l_bnd) (by l_bnd)) (rangeSize_nat _ _) lF' lN' ?hP ?turn ?done);
    (case hP => exact ⟨p, rfl, hp, rfl⟩);
    (case' turn => (rintro i9 u9 ⟨k9, t9⟩ hh9 tk9 I9 oI9 hi9 ⟨n9, e9, hlt9, hb9⟩ hn9 F9 N9; dsimp only at e9 F9; subst k9; (have nd9 : ND (rowsLed w.params rs ++ (I9, oI9) :: rest) := ND.mid nd hn9); clear lF' lN'));
    (case' done => (rintro ⟨k9, t9⟩ u9 hh9 tk9 ⟨n9, e9, hlt9, hb9⟩ F9 N9; dsimp only at e9 F9; subst k9; clear lF' lN')))
  refine wpAny_call ?_
  k_dflt ktr_enter
  k_steps
  all_goals (try k_data)
  · exact hret _ _ _ _ ⟨rfl, rs, rfl, brkR_none (by rw [← hb9, show rs.length - ((rs.length : Int) - 0).toNat = 0 by omega]; rfl)⟩ (by k_asm) (News.sub (by k_asm) (by k_sub))
  · rename rs[_]? = some _ => hq
    rename IR.parent _ = 0 => hd
    exact hret _ _ _ _ ⟨rfl, rs, rfl, brkR_none (by rw [← hb9]; exact brk_end hRel hq hd)⟩ (by k_asm) (News.sub (by k_asm) (by k_sub))
  · rename Set1 rs _ _ _ => hS
    rename rs[_]? = some _ => hq
    rename IR.parent _ ≠ 0 => hd0
    rename _ + IR.parent _ = (c : Int) => hd1
    rename _ = List.set _ _ _ => he
    exact hret _ _ _ _ ⟨rfl, _, rfl, brkR_some (by rw [← hb9]; exact brk_hit hRel hq hd0 hd1 (by omega)) (nat_at hq) (hS.again (r'' := { lsn _ _ _ with yo := 0, v13 := _ }) he hq rfl rfl rfl)⟩ (by k_asm) (News.sub (by k_asm) (sub_mid (b := [_])))
  · rename rs[_]? = some _ => hq
    rename IR.parent _ ≠ 0 => hd0
    rename _ + IR.parent _ ≠ (c : Int) => hd1
    obtain ⟨g, hg1, hg2, hg3⟩ := brk_go (k := rs.length - i9) hRel hq hd0 hd1 (by omega)
    exact ForW.go (_, _) (fr_swap (by decide +kernel) (by k_asm)) (by k_asm) hn9 ⟨g, hg1, hg2, by rw [← hb9, hg3, Nat.sub_sub]⟩
/-- a run of the rows -/
def Seg (rs sg : List IR) (a b : Nat) : Prop := sg = (rs.drop a).take (b - a)
theorem Seg.row {rs sg : List IR} {a b : Nat} (h : Seg rs sg a b) : rowOf sg = ((rowOf rs).drop a).take (b - a) := by
  unfold Seg at h; subst h; unfold rowOf; rw [List.map_take, List.map_drop]
theorem Seg.len {rs sg : List IR} {a b : Nat} (h : Seg rs sg a b) (hb : b ≤ rs.length) : sg.length = b - a := by
  unfold Seg at h; subst h; rw [List.length_take, List.length_drop]; omega
theorem Seg.le {rs sg : List IR} {a b : Nat} (h : Seg rs sg a b) : sg.length ≤ rs.length := by
  unfold Seg at h; subst h; rw [List.length_take, List.length_drop]; omega
theorem Seg.get {rs sg : List IR} {a b i : Nat} {r : IR} (h : Seg rs sg a b) (hr : sg[i]? = some r) : rs[a + i]? = some r := by
  unfold Seg at h; subst h
  rw [List.getElem?_take] at hr
  split at hr
  · rwa [List.getElem?_drop] at hr
  · cases hr
theorem row_elem {rs rs1 sg : List IR} {a b i : Nat} {v : Value} (hv : (rowOf sg)[i]? = some v) (h : Seg rs sg a b) (e : SameX rs rs1) : ∃ r1, rs1[a + i]? = some r1 ∧ v = .ref r1.x := by
  unfold rowOf at hv
  rw [List.getElem?_map] at hv
  cases hs : sg[i]? with
  | none => rw [hs] at hv; cases hv
  | some r =>
    rw [hs] at hv
    obtain ⟨r1, h1, h2, _⟩ := e.at (h.get hs)
    exact ⟨r1, h1, by cases hv; rw [h2]⟩
section
variable {prog : Program} {w : World} {A : Around} {E : Value → Shared → Prop} {s : Shared} {h₀ : Heap} {L l : Addr} {m : Str → Option Value} {news : Led}
theorem slice_row {value slice : Expr} {rs : List IR} {ep : Nat} {vl vu : Value} {x y : Int} {Q : Value → Shared → Prop} (F : Fr h₀ L s.heap m) (N : News h₀ L s.heap news) (hm : (l, listOf (rowOf rs).toArray ep) ∈ news) (pl : IsPart vl (some x)) (pu : IsPart vu (some y)) (hx : 0 ≤ x) (hx' : x ≤ rs.length) (hy : 0 ≤ y) (hy' : y ≤ rs.length) (hz : rs.length < 100)
    (h : ∀ D h' sg, Seg rs sg x.toNat y.toNat → Fr h₀ L h' m → News h₀ L h' ((D, listOf (rowOf sg).toArray 0) :: news) → (∀ p ∈ news, p.1 < D) → Q (.ref D) { s with heap := h' })
    (hs : subscripted slice false (.ref l) (.ref s.heap.objs.size) = operate [.ref s.heap.objs.size, .ref l] (getItem (.ref l) (.ref s.heap.objs.size)) := by with_unfolding_all rfl) (ht : ∀ r, letTemporaryGo value (.ref l) r = pure () := by intro _; with_unfolding_all rfl) :
    wpAny (model prog w) A (subscriptTail value slice (.ref l) (.ref s.heap.objs.size)) Q E { s with heap := s.heap.push { cls := .type "slice", data := .fields #[vl, vu, .none] } } := by
  refine slice_led F N hm pl pu hx (by rw [rowOf_len]; exact hx') hy (by rw [rowOf_len]; exact hy') (by rw [rowOf_len]; omega) (fun D h' zs e F' N' l1 => ?_) hs ht
  have hs : Seg rs ((rs.drop x.toNat).take (y.toNat - x.toNat)) x.toNat y.toNat := rfl
  exact h D h' _ hs F' (by rw [hs.row, ← e]; exact N') l1
theorem min_led {vs : List Value} {ns : List Int} {Q : Value → Shared → Prop} (hh : A.handled = none) (F : Fr h₀ L s.heap m) (N : News h₀ L s.heap news) (hm : (l, LCg.lst vs) ∈ news) (hi : IntsAre vs ns) (hne : 0 < vs.length)
    (h : ∀ h' M (t : Tok) tk, Fr h₀ L h' m → News h₀ L h' news → Q (.int M t) { s with heap := h', toks := tk }) : wpAny (model prog w) A (call (.builtin "min") [.ref l]) Q E s :=
  min_list_N hh F N (News.isList N hm) hi (by rw [← hi.length]; exact hne) fun h' M t tk F' N' _ _ => h h' M t tk F' N'
end
section
variable {prog : Program} {w : World} {A : Around} {E : Value → Shared → Prop} {s : Shared} {env : Env} {h₀ : Heap} {x : Str} {body : List Stmt} {Q : Flow → Shared → Prop} {rs : List IR} {cur led : Led} {m₀ : Str → Option Value}
theorem ND.mid' {d : Addr} {o : Obj} {l l' : Led} (n : ND (l ++ (d, o) :: l')) : ∀ p ∈ l ++ l', p.1 ≠ d := (ND.perm List.perm_middle n).head
theorem for_rows {l : Addr} {vs : List Value} {ep : Nat} (U : Nat → List IR → Prop) (nd : ND (rowsLed w.params rs ++ led)) (hh : A.handled = none) (hl : (l, listOf vs.toArray ep) ∈ led)
    (F : Fr h₀ env.locals s.heap m₀) (N : News h₀ env.locals s.heap cur) (sub : ∀ p ∈ rowsLed w.params rs ++ led, p ∈ cur) (hP : U 0 rs) (hsx : ∀ i rs1, U i rs1 → SameX rs rs1)
    (turn : ∀ (i : Nat) v rs1 h tk I oI, vs[i]? = some v → U i rs1 → ND (rowsLed w.params rs1 ++ (I, oI) :: led) → Fr h₀ env.locals h (fun y => if y = x then some v else m₀ y) → News h₀ env.locals h ((I, oI) :: (rowsLed w.params rs1 ++ led)) →
      wpAny (model prog w) A (execs body env) (ForW h₀ env.locals s x I oI m₀ (fun m _ => m) (fun rs1 => rowsLed w.params rs1 ++ led) (U (i + 1)) Q) E { s with heap := h, toks := tk })
    (done : ∀ rs1 u h tk, U vs.length rs1 → ND (rowsLed w.params rs1 ++ led) → Fr h₀ env.locals h (fun y => if y = x then u else m₀ y) → News h₀ env.locals h (rowsLed w.params rs1 ++ led) → Q .next { s with heap := h, toks := tk }) :
    wpAny (model prog w) A (pyIter (.ref l)) (fun it s₂ => LoopAtV prog w A h₀ env x body Q E it s₂) E s :=
  for_list (fun m _ => m) (fun rs1 => rowsLed w.params rs1 ++ led) U hh (fun _ _ _ => List.mem_append_right _ hl) F (News.sub N sub) hP
    (fun i v rs1 h tk I oI hv hU hn F' N' => turn i v rs1 h tk I oI hv hU (ND.mid ((hsx _ _ hU).nd nd) hn) F' N')
    (fun rs1 u h tk hU F' N' => done rs1 u h tk hU ((hsx _ _ hU).nd nd) F' N')
theorem for_rows_range {r : Addr} {a b : Int} {t u v : Tok} {n : Nat} (U : Nat → List IR → Prop) (nd : ND (rowsLed w.params rs ++ led)) (hh : A.handled = none) (hr : IsRange s.heap r a b 1 t u v) (hsm : Builtin.Range.small a b 1 = true) (hn : Builtin.Range.rangeSize a b 1 = ((n : Nat) : Int))
    (F : Fr h₀ env.locals s.heap m₀) (N : News h₀ env.locals s.heap cur) (sub : ∀ p ∈ rowsLed w.params rs ++ led, p ∈ cur) (hP : U 0 rs) (hsx : ∀ i rs1, U i rs1 → SameX rs rs1)
    (turn : ∀ (i : Nat) t rs1 h tk I oI, i < n → U i rs1 → ND (rowsLed w.params rs1 ++ (I, oI) :: led) → Fr h₀ env.locals h (fun y => if y = x then some (.int (a + (i : Int)) t) else m₀ y) → News h₀ env.locals h ((I, oI) :: (rowsLed w.params rs1 ++ led)) →
      wpAny (model prog w) A (execs body env) (ForW h₀ env.locals s x I oI m₀ (fun m _ => m) (fun rs1 => rowsLed w.params rs1 ++ led) (U (i + 1)) Q) E { s with heap := h, toks := tk })
    (done : ∀ rs1 u h tk, U n rs1 → ND (rowsLed w.params rs1 ++ led) → Fr h₀ env.locals h (fun y => if y = x then u else m₀ y) → News h₀ env.locals h (rowsLed w.params rs1 ++ led) → Q .next { s with heap := h, toks := tk }) :
    wpAny (model prog w) A (pyIter (.ref r)) (fun it s₂ => LoopAtV prog w A h₀ env x body Q E it s₂) E s :=
  for_range (fun m _ => m) (fun rs1 => rowsLed w.params rs1 ++ led) U hh hr hsm hn F (News.sub N sub) hP
    (fun i t rs1 h tk I oI hi hU hn F' N' => turn i t rs1 h tk I oI hi hU (ND.mid ((hsx _ _ hU).nd nd) hn) F' N')
    (fun rs1 u h tk hU F' N' => done rs1 u h tk hU ((hsx _ _ hU).nd nd) F' N')
theorem ForW.rows {I L : Addr} {oI : Obj} {U : List IR → Prop} {h' : Heap} {tk : Nat} {u : Option Value} {cur : Led} {rs1 : List IR} (nd : ND (rowsLed w.params rs1 ++ (I, oI) :: led)) (F : Fr h₀ L h' (fun y => if y = x then u else m₀ y)) (N : News h₀ L h' cur)
    (sub : ∀ p ∈ rowsLed w.params rs1 ++ (I, oI) :: led, p ∈ cur) (hP : U rs1) : ForW h₀ L s x I oI m₀ (fun m _ => m) (fun rs1 => rowsLed w.params rs1 ++ led) U Q .next { s with heap := h', toks := tk } :=
  ForW.go rs1 F (fun p hp => N p (sub p (List.perm_middle.mem_iff.mpr hp))) nd.mid' hP
end
theorem led_mem {a b : Led} {p : Addr × Obj} {c : Led} (h : ∀ q ∈ a, q ∈ c) (k : ∀ q ∈ b, q ∈ c) : p ∈ a ++ b → p ∈ c := fun q => (List.mem_append.mp q).elim (h p) (k p)
/-- rows that are alike but for the mark of breaks -/
def UnsEq (rs rs1 : List IR) : Prop := rs1.map (fun r => { r with uns := false }) = rs.map (fun r => { r with uns := false })
theorem UnsEq.at {rs rs1 : List IR} {i : Nat} {r1 : IR} (h : UnsEq rs rs1) (hr : rs1[i]? = some r1) : ∃ b r, rs[i]? = some r ∧ r1 = { r with uns := b } := by
  have e := congrArg (·[i]?) h
  simp only [List.getElem?_map, hr, Option.map_some] at e
  cases h1 : rs[i]? with
  | none => rw [h1] at e; cases e
  | some r =>
    rw [h1] at e
    simp only [Option.map_some, Option.some.injEq] at e
    refine ⟨r1.uns, r, rfl, ?_⟩
    obtain ⟨⟩ := r1; obtain ⟨⟩ := r
    simp only [IR.mk.injEq] at e ⊢
    simp [e]
theorem UnsEq.sx {rs rs1 : List IR} (h : UnsEq rs rs1) : SameX rs rs1 := by
  have := congrArg (List.map (fun r : IR => (r.x, r.d))) h
  simpa [SameX, List.map_map, Function.comp_def] using this
theorem UnsEq.len {rs rs1 : List IR} (h : UnsEq rs rs1) : rs1.length = rs.length := h.sx.len
theorem UnsEq.gl {rs rs1 : List IR} (h : UnsEq rs rs1) (g : GL rs) : GL rs1 := fun r1 hr1 => by
  obtain ⟨i, hi⟩ := List.mem_iff_getElem?.mp hr1
  obtain ⟨b, r, hr, e⟩ := h.at hi
  rw [e]; exact g r (List.mem_of_getElem? hr)
theorem UnsEq.set {rs rs1 : List IR} {i : Nat} {r : IR} {b : Bool} (h : UnsEq rs rs1) (hr : rs1[i]? = some r) : UnsEq rs (rs1.set i { r with uns := b }) := by
  unfold UnsEq at *
  rw [← h, List.map_set]
  apply List.ext_getElem?
  intro j
  rw [List.getElem?_set]
  split
  · rename_i e; subst e
    have hlt := (List.getElem?_eq_some_iff.mp hr).1
    rw [if_pos (by rw [List.length_map]; exact hlt), List.getElem?_map, hr]; rfl
  · rfl
local macro_rules | `(tactic| walk_at "subscriptTail") => `(tactic| (k_here; (with_reducible show wpAny _ _ (subscriptTail _ (PySem.Expr.Slice _ _ none _) (Value.ref _) (Value.ref _)) _ _ _); k_dflt (refine' slice_row ?F ?N ?m ?p ?q ?a ?b ?c ?d ?z ?_; (case F | N => k_asm); (case m => k_mem); (case p | q => kmk_part); (case a | b | c | d => omega); (case z => assumption); k_whole); intro D8 h8 sg8 e8 F8 N8 l8; (have nd8 := ND.mid (o := listOf (rowOf sg8).toArray 0) (d := D8) (by assumption) (fun p hp => Nat.ne_of_lt (l8 p hp))); (have ls8 := Seg.le e8); (have len8 : List.length sg8 < 100 := (by omega))))
local macro_rules | `(tactic| walk_at "call builtin:min") => `(tactic| (k_here; k_dflt (refine' min_led ?h ?F ?N ?m ?i ?z ?_; (case h => with_unfolding_all rfl); (case F | N => k_asm); (case m => k_mem); (case i => assumption); (case z => omega); k_whole); intro h8 M8 t8 tk8 F8 N8))
local macro_rules | `(tactic| walk_at "CompSrc") => `(tactic| k_extra "CompSrc")
set_option maxHeartbeats 8000000 in
theorem hang_ok (w : World) (rest : Led) (rs : List IR) (buf row : Addr) (p e : Int) (t t2 : Tok) (nd : ND (rowsLed w.params rs ++ rest)) (hbuf : IsBuf w.params rest buf row) (hrow : IsRow rest row rs) (hG : GL rs) (hz : rs.length < 100) (hp : 0 ≤ p) (hp' : p ≤ rs.length) (he : 0 ≤ e) (he' : e ≤ rs.length) :
    Spec w 237 [.ref buf, .int p t, .int e t2] (rowsLed w.params rs ++ rest) 2 16 (fun v n => v = .none ∧ ∃ rs1, n = rowsLed w.params rs1 ++ rest ∧ UnsEq rs rs1) := by
  obtain ⟨ep, m5⟩ := hrow
  obtain ⟨bd, q0, q1, q2, u2, q3, u3, m3, m4⟩ := hbuf
  unfold Spec
  intro mean mg mb dp un gdd cn cs a ccd cl outer A₀ base h₀ L m s Q E B F X N T hk' hR hU hret
  k_with_none
  k_with "setAttr ref" => (k_here; (with_reducible show wpAny _ _ (setAttr (Value.ref _) (Str.ofString "is_unsafe") (Value.bool _)) _ _ _); k_dflt (refine' set_uns ?F_u14 ?X_u14 ?N_u14 ?p_u14 ?nd_u14 ?hr_u14 ?hx_u14 ?k1_u14 ?k2_u14 ?k3_u14 ?k4_u14 ?_; (case F_u14 => k_asm); (case X_u14 => k_asm); (case N_u14 => k_asm); (case p_u14 => tb_rel); (case nd_u14 => first | assumption | (rename News _ _ _ _ => N7_u14; exact nd_of N7_u14 (by tb_rel) (by k_ownIn))); (case hr_u14 => assumption); (case hx_u14 => first | exact rfl | assumption); (case k1_u14 => k_is); (case k2_u14 => k_is); (case k3_u14 => k_is); (case k4_u14 => k_is); k_whole); intro hq_u14 rs1_u14 e1_u14 sx1_u14 ln1_u14 gl1_u14 nd1_u14 hr1_u14 mx1_u14 md1_u14 Fq_u14 Nq_u14; (try (have gl2_u14 := gl1_u14 (by assumption))); (try (have m2_u14 := same_row (by assumption) sx1_u14)); (try (have len2_u14 : List.length rs1_u14 < 100 := (by omega))); (try k_sweep))
  k_with "exec For Name Name cons nil" => (k_here; (rename Fr _ _ _ _ => lF'); (with_unfolding_all refine' For_invVF lF' ?k1 ?k2 ?_; (case k1 => exact rfl); (case k2 => exact rfl); k_whole))
  k_with "CompSrc" => (
    (rename Fr _ _ _ _ => lF'); (rename News _ _ _ _ => lN');
    (with_unfolding_all refine' comp_list (fun i ys => ys.length = i ∧ ∃ ns, IntsAre ys ns) (by rfl) lF' lN' ?hm ?hz ⟨rfl, [], .nil⟩ ?turn ?fin);
    (case hm => k_mem); (case hz => rw [rowOf_len]; omega);
    (case' turn => (rintro i9 ys9 v9 I9 oI9 C9 oC9 D9 m9 hh9 tk9 E9 hv9 ⟨hl9, ns9, hi9⟩ hC9 hx9 F9 N9 of9 ne9; obtain ⟨r9, hr9, e9⟩ := row_elem hv9 (by assumption) SameX.rfl'; subst e9; (have mx9 := rows_x (P := w.params) (List.mem_of_getElem? hr9)); (have md9 := rows_d (P := w.params) (List.mem_of_getElem? hr9)); clear lF' lN'));
    (case' fin => (rintro g9 ys9 ⟨hl9, ns9, hi9⟩; rw [rowOf_len] at hl9; clear lF' lN')))
  k_with "pyIter ref" => (
    (rename Fr _ _ _ _ => lF'); (rename News _ _ _ _ => lN'); (rename Seg rs _ _ _ => hS8); (rename ND (_ ++ (_, _) :: _) => nd8);
    (with_unfolding_all refine' for_rows (fun _ rs1 => UnsEq rs rs1) nd8 (by rfl) ?hlF lF' lN' ?subF rfl (fun _ _ h => h.sx) ?turnF ?doneF);
    (case hlF => k_mem);
    (case subF => exact fun p hp => List.mem_cons_of_mem _ (List.perm_middle.mem_iff.mp hp));
    (case' turnF => (rintro i9 v9 rs9 hh9 tk9 I9 oI9 hi9 hU9 nd9 F9 N9; obtain ⟨r9, hr9, e9⟩ := row_elem hi9 hS8 hU9.sx; subst e9; (have mx9 := rows_x (P := w.params) (List.mem_of_getElem? hr9)); (have md9 := rows_d (P := w.params) (List.mem_of_getElem? hr9)); clear lF' lN'));
    (case' doneF => (rintro rs9 u9 hh9 tk9 hU9 nd9 F9 N9; clear lF' lN')))
  refine wpAny_call ?_
  k_dflt ktr_enter
  k_steps
  all_goals (try k_data)
  · exact hret _ _ _ _ ⟨rfl, rs, rfl, rfl⟩ (by k_asm) (News.sub (by k_asm) (by k_sub))
  · exact hret _ _ _ _ ⟨rfl, _, rfl, hU9⟩ (by k_asm) (News.sub (by k_asm) (sub_mid (b := [_])))
  · rename _ = List.set _ _ _ => he
    subst he
    exact ForW.rows (by assumption) (by k_asm) (by k_asm) (fun _ h => h) (hU9.set hr9)
  · exact ForW.rows nd9 (by k_asm) (by k_asm) (fun p h => List.perm_middle.mem_iff.mp h) hU9
  · exact CmpW.go (by k_asm) (by k_asm) ⟨by rw [List.length_append, hl9]; rfl, _, IntsAre.snoc' hi9⟩
abbrev tup (vs : List Value) : Obj := { cls := .type "tuple", data := .seq vs.toArray }
def IsAnch (w : World) (led : Led) (x : Addr) : Prop := ∃ a b, IsAnchor w.params led x a b
theorem IsAnch.mono {w : World} {led led' : Led} {x : Addr} (h : IsAnch w led x) (s : ∀ p ∈ led, p ∈ led') : IsAnch w led' x := let ⟨a, b, m⟩ := h; ⟨a, b, m.mono s⟩
def IsMk (w : World) (led : Led) (mk : Addr) : Prop := ∃ (o : Obj) (t4 t5 x4 x5 : Addr) (k4 k5 : Tok), (mk, o) ∈ led ∧ (mk == sysModules) = false ∧ o.IsDictOf (intKind prg w) [(4, .ref t4), (5, .ref t5)] ∧ (t4, tup [.int 0 k4, .ref x4]) ∈ led ∧ (t5, tup [.int 0 k5, .ref x5]) ∈ led ∧ IsAnch w led x4 ∧ IsAnch w led x5
theorem IsMk.mono {w : World} {led led' : Led} {x : Addr} (h : IsMk w led x) (s : ∀ p ∈ led, p ∈ led') : IsMk w led' x := let ⟨o, t4, t5, x4, x5, k4, k5, a, b, c, d, e, f, g⟩ := h; ⟨o, t4, t5, x4, x5, k4, k5, s _ a, b, c, s _ d, s _ e, f.mono s, g.mono s⟩
def IsRw (w : World) (led : Led) (rw : Addr) : Prop := ∃ x, (rw, tup [.ref x]) ∈ led ∧ IsAnch w led x
theorem IsRw.mono {w : World} {led led' : Led} {x : Addr} (h : IsRw w led x) (s : ∀ p ∈ led, p ∈ led') : IsRw w led' x := let ⟨y, a, b⟩ := h; ⟨y, s _ a, b.mono s⟩
def kvsOf (b : Bool) (rw : Addr) : List (Int × Value) := if b then [(1, .ref rw), (2, .ref rw), (3, .ref rw)] else [(4, .ref rw), (5, .ref rw)]
def IsTb (w : World) (led : Led) (d : Addr) (b : Bool) (rw : Addr) : Prop := ∃ o, (d, o) ∈ led ∧ (d == sysModules) = false ∧ o.IsDictOf (intKind prg w) (kvsOf b rw) ∧ IsRw w led rw
theorem IsTb.mono {w : World} {led led' : Led} {d rw : Addr} {b : Bool} (h : IsTb w led d b rw) (s : ∀ p ∈ led, p ∈ led') : IsTb w led' d b rw := let ⟨o, x, y, z, u⟩ := h; ⟨o, s _ x, y, z, u.mono s⟩
section
variable {w : World} {A : Around} {E : Value → Shared → Prop} {s : Shared} {h₀ : Heap} {L mk d rw : Addr} {cur led : Led} {k : Int} {t : Tok}
theorem mk_notin {Q : Value → Shared → Prop} (N : News h₀ L s.heap cur) (hm : IsMk w led mk) (sub : ∀ p ∈ led, p ∈ cur) (h1 : 1 ≤ k) (h5 : k ≤ 5) (h : Q (.bool (decide (k ≤ 3))) { s with toks := s.toks + 1 }) : wpAny (model prg w) A (compareOp .NotIn (.int k t) (.ref mk)) Q E s := by
  obtain ⟨o, t4, t5, x4, x5, k4, k5, a, b, c, -⟩ := hm
  have hc : k = 1 ∨ k = 2 ∨ k = 3 ∨ k = 4 ∨ k = 5 := by omega
  refine kdg_notin (knd := intKind _ _) N (sub _ a) c b (intKind_is _ _ _ _) (decide (4 ≤ k)) ?_ ?_
  · rcases hc with rfl | rfl | rfl | rfl | rfl <;> rfl
  · rw [show (!decide (4 ≤ k)) = decide (k ≤ 3) by rcases hc with rfl | rfl | rfl | rfl | rfl <;> rfl]; exact h
theorem mk_item {value slice : PySem.Expr} {Q : Value → Shared → Prop} (N : News h₀ L s.heap cur) (hm : IsMk w led mk) (sub : ∀ p ∈ led, p ∈ cur) (h4 : 4 ≤ k) (h5 : k ≤ 5) (h : ∀ t x u, (t, tup [.int 0 u, .ref x]) ∈ led → IsAnch w led x → Q (.ref t) { s with toks := s.toks + 1 })
    (hs : subscripted slice false (.ref mk) (.int k t) = operate [.ref mk, .int k t] (getItem (.ref mk) (.int k t)) := by with_unfolding_all rfl) (hg : ∀ r, letTemporaryGo value (.ref mk) r = pure () := by intro _; with_unfolding_all rfl) :
    wpAny (model prg w) A (subscriptTail value slice (.ref mk) (.int k t)) Q E s := by
  obtain ⟨o, t4, t5, x4, x5, k4, k5, a, b, c, d, e, f, g⟩ := hm
  have hc : k = 4 ∨ k = 5 := by omega
  rcases hc with rfl | rfl
  · exact kda_item (knd := intKind _ _) N (sub _ a) c (intKind_is _ _ _ _) rfl (h t4 x4 k4 d f) hs hg
  · exact kda_item (knd := intKind _ _) N (sub _ a) c (intKind_is _ _ _ _) rfl (h t5 x5 k5 e g) hs hg
theorem tb_notin {b : Bool} {Q : Value → Shared → Prop} (N : News h₀ L s.heap cur) (hm : IsTb w led d b rw) (sub : ∀ p ∈ led, p ∈ cur) (h1 : 1 ≤ k) (h5 : k ≤ 5) (h : Q (.bool (decide (b = true ↔ 4 ≤ k))) { s with toks := s.toks + 1 }) : wpAny (model prg w) A (compareOp .NotIn (.int k t) (.ref d)) Q E s := by
  obtain ⟨o, x, y, z, -⟩ := hm
  have hc : k = 1 ∨ k = 2 ∨ k = 3 ∨ k = 4 ∨ k = 5 := by omega
  refine kdg_notin (knd := intKind _ _) N (sub _ x) z y (intKind_is _ _ _ _) (!decide (b = true ↔ 4 ≤ k)) ?_ ?_
  · cases b <;> rcases hc with rfl | rfl | rfl | rfl | rfl <;> rfl
  · rw [Bool.not_not]; exact h
theorem tb_item {b : Bool} {value slice : PySem.Expr} {Q : Value → Shared → Prop} (N : News h₀ L s.heap cur) (hm : IsTb w led d b rw) (sub : ∀ p ∈ led, p ∈ cur) (h1 : 1 ≤ k) (h5 : k ≤ 5) (hb : ¬ (b = true ↔ 4 ≤ k)) (h : Q (.ref rw) { s with toks := s.toks + 1 })
    (hs : subscripted slice false (.ref d) (.int k t) = operate [.ref d, .int k t] (getItem (.ref d) (.int k t)) := by with_unfolding_all rfl) (hg : ∀ r, letTemporaryGo value (.ref d) r = pure () := by intro _; with_unfolding_all rfl) :
    wpAny (model prg w) A (subscriptTail value slice (.ref d) (.int k t)) Q E s := by
  obtain ⟨o, x, y, z, -⟩ := hm
  have hc : k = 1 ∨ k = 2 ∨ k = 3 ∨ k = 4 ∨ k = 5 := by omega
  refine kda_item (knd := intKind _ _) N (sub _ x) z (intKind_is _ _ _ _) ?_ h hs hg
  cases b <;> rcases hc with rfl | rfl | rfl | rfl | rfl <;> first | rfl | (exfalso; exact hb (by decide))
end
local macro_rules | `(tactic| walk_at "compareOp NotIn") => `(tactic| (k_here; (with_reducible show wpAny _ _ (compareOp CmpOp.NotIn (Value.int _ _) (Value.ref _)) _ _ _); k_dflt (first | (refine' mk_notin ?N1 ?m1 ?s1 ?a1 ?b1 ?_; (case N1 => k_asm); (case m1 => assumption); (case s1 => first | exact fun _ h => h | (intro p9 h9; k_mem)); (case a1 | b1 => walk_at "z5"); k_whole) | (refine' tb_notin ?N2 ?m2 ?s2 ?a2 ?b2 ?_; (case N2 => k_asm); (case m2 => assumption); (case s2 => first | exact fun _ h => h | (intro p9 h9; k_mem)); (case a2 | b2 => walk_at "z5"); k_whole))))
local macro_rules | `(tactic| walk_at "subscriptTail") => `(tactic| (k_here; (with_reducible show wpAny _ _ (subscriptTail _ _ (Value.ref _) (Value.int _ _)) _ _ _); k_dflt (first | (refine' mk_item ?N1 ?m1 ?s1 ?a1 ?b1 ?_; (case N1 => k_asm); (case m1 => assumption); (case s1 => first | exact fun _ h => h | (intro p9 h9; k_mem)); (case a1 | b1 => walk_at "z5"); k_whole; intro t8 x8 u8 mt8 ax8; (obtain ⟨a8, b8, d8, ka8, va8, kb8, vb8, ma8, mb8⟩ := ax8)) | (refine' tb_item ?N2 ?m2 ?s2 ?a2 ?b2 ?c2 ?_; (case N2 => k_asm); (case m2 => assumption); (case s2 => first | exact fun _ h => h | (intro p9 h9; k_mem)); (case a2 | b2 => walk_at "z5"); (case c2 => assumption); k_whole))))
/-- what set_on leaves -/
def SetR (a : Nat) (p : Nat) (rs1 rs3 : List IR) : Prop := ∀ j r3, rs3[j]? = some r3 →
  (j = a → r3.parent = (p : Int) - (a : Int) ∧ r3.bond = Str.ofString "mark") ∧ (j ≠ a → ∃ r1, rs1[j]? = some r1 ∧ r3.parent = r1.parent ∧ r3.bond = r1.bond ∧ r3.yo = r1.yo)
theorem setR_of {a p : Nat} {rs1 rsF : List IR} {r1 r4 : IR} (hr1 : rs1[a]? = some r1) (U : UnsEq (rs1.set a r4) rsF) (hp : r4.parent = (p : Int) - (a : Int)) (hb : r4.bond = Str.ofString "mark") : SetR a p rs1 rsF := fun j r3 h3 => by
  obtain ⟨b, r, hr, rfl⟩ := U.at h3
  rw [List.getElem?_set] at hr
  have ha := (List.getElem?_eq_some_iff.mp hr1).1
  refine ⟨fun e => ?_, fun e => ?_⟩
  · subst e
    rw [if_pos rfl, if_pos ha] at hr
    cases hr
    exact ⟨hp, hb⟩
  · rw [if_neg (Ne.symm e)] at hr
    exact ⟨r, hr, rfl, rfl, rfl⟩
theorem setX_of {a : Nat} {rs rs1 rsF : List IR} {r1 r4 : IR} (sx : SameX rs rs1) (hr1 : rs1[a]? = some r1) (U : UnsEq (rs1.set a r4) rsF) (hx : r4.x = r1.x) (hd : r4.d = r1.d) : SameX rs rsF := sx.trans ((SameX.set hr1 hx hd).trans U.sx)
set_option maxHeartbeats 8000000 in
theorem set_on_ok (w : World) (rest : Led) (rs : List IR) (ps : Par) (sc buf row gd lks lk tabs mk rw : Addr) (kd : Str) (f : Int) (ai p : Nat) (r : IR) (t t2 : Tok) (nd : ND (rowsLed w.params rs ++ rest)) (hS : Sc w rest rs sc buf row gd lks lk tabs kd f) (hm : IsMk w rest mk) (hw : IsRw w rest rw)
    (hRel : RelP rs ps) (ha : ai < rs.length) (hp : p < ai) (hr : rs[ai]? = some r) (h4 : 4 ≤ r.glyph) :
    Spec w 379 [.ref sc, .ref mk, .ref rw,   .int (ai : Int) t, .int (p : Int) t2] (rowsLed w.params rs ++ rest) 4 32
      (fun v n => ∃ rs1 rs3 t', v = .int ((ai : Int) + 1) t' ∧ n = rowsLed w.params rs3 ++ rest ∧ brkR ps ai p rs rs1 ∧ SameX rs rs3 ∧ (GL rs → GL rs3) ∧ SetR ai p rs1 rs3) := by
  k_with_none
  k_with "call ref" => (k_here; (with_reducible show wpAny _ _ (call (Value.ref 237) _) _ _ _); k_dflt (refine' use_spec (hang_ok _ _ _ _ _ _ _ _ _ ?h1_u17 ?h2_u17 ?h3_u17 ?h4_u17 ?h5_u17 ?h6_u17 ?h7_u17 ?h8_u17 ?h9_u17) ?p0_u17 ?B0_u17 ?F0_u17 ?X0_u17 ?N0_u17 ?T0_u17 ?k0_u17 ?d0_u17 ?u0_u17 ?_; (case B0_u17 => k_asm); (case F0_u17 => k_asm); (case X0_u17 => k_asm); (case N0_u17 => k_asm); (case T0_u17 => k_asm); (case k0_u17 => first | exact rfl | assumption); (case p0_u17 => tb_rel); (case h1_u17 => first | assumption | (rename News _ _ _ _ => N7_u17; exact nd_of N7_u17 (by tb_rel) (by k_ownIn))); (case h2_u17 => first | assumption | exact IsBuf.mono (by assumption) (by first | k_sub | (intro p9_u17 h9_u17; k_mem))); (case h3_u17 => first | assumption | exact ⟨_, by k_mem⟩ | exact IsRow.mono (by assumption) (by first | k_sub | (intro p9_u17 h9_u17; k_mem))); (case h4_u17 => assumption); (case h5_u17 => assumption); (case h6_u17 => omega); (case h7_u17 => omega); (case h8_u17 => omega); (case h9_u17 => omega); (case d0_u17 => ktr_room); (case u0_u17 => ktr_units); k_whole); intro r9_u17 n9_u17 h9_u17 t9_u17 P9_u17 F9_u17 N9_u17; obtain ⟨e8_u17, rs1_u17, e9_u17, U8_u17⟩ := P9_u17; subst n9_u17; subst e8_u17; (try k_sweep); (try dsimp only); (try k_fold))
  k_with "call ref" => (k_here; (with_reducible show wpAny _ _ (call (Value.ref 266) _) _ _ _); k_dflt (refine' use_spec (break_ring_ok _ _ _ ?ps9_u16 _ _ _ _ _ ?h1_u16 ?h2_u16 ?h3_u16 ?h4_u16 ?h5_u16 ?h6_u16 ?h7_u16) ?p0_u16 ?B0_u16 ?F0_u16 ?X0_u16 ?N0_u16 ?T0_u16 ?k0_u16 ?d0_u16 ?u0_u16 ?_; (case B0_u16 => k_asm); (case F0_u16 => k_asm); (case X0_u16 => k_asm); (case N0_u16 => k_asm); (case T0_u16 => k_asm); (case k0_u16 => first | exact rfl | assumption); (case p0_u16 => tb_rel); (case h1_u16 => first | assumption | (rename News _ _ _ _ => N7_u16; exact nd_of N7_u16 (by tb_rel) (by k_ownIn))); (case h2_u16 => first | assumption | exact ⟨_, by k_mem⟩ | exact IsRow.mono (by assumption) (by first | k_sub | (intro p9_u16 h9_u16; k_mem))); (case h3_u16 => assumption); (case h4_u16 => assumption); (case h5_u16 => assumption); (case h6_u16 => first | assumption | omega); (case h7_u16 => first | assumption | omega); (case d0_u16 => ktr_room); (case u0_u16 => ktr_units); k_whole); intro r9_u16 n9_u16 h9_u16 t9_u16 P9_u16 F9_u16 N9_u16; obtain ⟨e8_u16, rs1_u16, e9_u16, P8_u16⟩ := P9_u16; subst n9_u16; subst e8_u16; (have sx1_u16 := brkR.sx P8_u16); (have ln1_u16 := SameX.len sx1_u16); (have gl1_u16 := brkR.gl P8_u16 (by assumption)); (try (have m2_u16 := same_row (by assumption) sx1_u16)); (have len2_u16 : List.length rs1_u16 < 100 := (by omega)); (have nd1_u16 := sx1_u16.nd (by assumption)); (try (obtain ⟨r1_u16, hr1_u16, hx1_u16, hd1_u16⟩ := SameX.at sx1_u16 (by assumption))); (try k_sweep); (try dsimp only); (try k_fold))
  k_with "setAttr ref" => (k_here; (with_reducible show wpAny _ _ (setAttr (Value.ref _) (Str.ofString "x_offset") (Value.int _ _)) _ _ _); k_dflt (refine' set_xo ?F_u13 ?X_u13 ?N_u13 ?p_u13 ?nd_u13 ?hr_u13 ?hx_u13 ?k1_u13 ?k2_u13 ?k3_u13 ?k4_u13 ?_; (case F_u13 => k_asm); (case X_u13 => k_asm); (case N_u13 => k_asm); (case p_u13 => tb_rel); (case nd_u13 => first | assumption | (rename News _ _ _ _ => N7_u13; exact nd_of N7_u13 (by tb_rel) (by k_ownIn))); (case hr_u13 => assumption); (case hx_u13 => first | exact rfl | assumption); (case k1_u13 => k_is); (case k2_u13 => k_is); (case k3_u13 => k_is); (case k4_u13 => k_is); k_whole); intro hq_u13 rs1_u13 e1_u13 sx1_u13 ln1_u13 gl1_u13 nd1_u13 hr1_u13 mx1_u13 md1_u13 Fq_u13 Nq_u13; (try (have gl2_u13 := gl1_u13 (by assumption))); (try (have m2_u13 := same_row (by assumption) sx1_u13)); (try (have len2_u13 : List.length rs1_u13 < 100 := (by omega))); (try k_sweep))
  k_with "setAttr ref" => (k_here; (with_reducible show wpAny _ _ (setAttr (Value.ref _) (Str.ofString "y_offset") (Value.int _ _)) _ _ _); k_dflt (refine' set_yo ?F_u12 ?X_u12 ?N_u12 ?p_u12 ?nd_u12 ?hr_u12 ?hx_u12 ?k1_u12 ?k2_u12 ?k3_u12 ?k4_u12 ?_; (case F_u12 => k_asm); (case X_u12 => k_asm); (case N_u12 => k_asm); (case p_u12 => tb_rel); (case nd_u12 => first | assumption | (rename News _ _ _ _ => N7_u12; exact nd_of N7_u12 (by tb_rel) (by k_ownIn))); (case hr_u12 => assumption); (case hx_u12 => first | exact rfl | assumption); (case k1_u12 => k_is); (case k2_u12 => k_is); (case k3_u12 => k_is); (case k4_u12 => k_is); k_whole); intro hq_u12 rs1_u12 e1_u12 sx1_u12 ln1_u12 gl1_u12 nd1_u12 hr1_u12 mx1_u12 md1_u12 Fq_u12 Nq_u12; (try (have gl2_u12 := gl1_u12 (by assumption))); (try (have m2_u12 := same_row (by assumption) sx1_u12)); (try (have len2_u12 : List.length rs1_u12 < 100 := (by omega))); (try k_sweep))
  k_with "setAttr ref" => (k_here; (with_reducible show wpAny _ _ (setAttr (Value.ref _) (Str.ofString "bond") (Value.str _ _)) _ _ _); k_dflt (refine' set_bond ?F_u11 ?X_u11 ?N_u11 ?p_u11 ?nd_u11 ?hr_u11 ?hx_u11 ?k1_u11 ?k2_u11 ?k3_u11 ?k4_u11 ?_; (case F_u11 => k_asm); (case X_u11 => k_asm); (case N_u11 => k_asm); (case p_u11 => tb_rel); (case nd_u11 => first | assumption | (rename News _ _ _ _ => N7_u11; exact nd_of N7_u11 (by tb_rel) (by k_ownIn))); (case hr_u11 => assumption); (case hx_u11 => first | exact rfl | assumption); (case k1_u11 => k_is); (case k2_u11 => k_is); (case k3_u11 => k_is); (case k4_u11 => k_is); k_whole); intro hq_u11 rs1_u11 e1_u11 sx1_u11 ln1_u11 gl1_u11 nd1_u11 hr1_u11 mx1_u11 md1_u11 Fq_u11 Nq_u11; (try (have gl2_u11 := gl1_u11 (by assumption))); (try (have m2_u11 := same_row (by assumption) sx1_u11)); (try (have len2_u11 : List.length rs1_u11 < 100 := (by omega))); (try k_sweep))
  k_with "setAttr ref" => (k_here; (with_reducible show wpAny _ _ (setAttr (Value.ref _) (Str.ofString "parent") (Value.int _ _)) _ _ _); k_dflt (refine' set_parent ?F_u10 ?X_u10 ?N_u10 ?p_u10 ?nd_u10 ?hr_u10 ?hx_u10 ?k1_u10 ?k2_u10 ?k3_u10 ?k4_u10 ?_; (case F_u10 => k_asm); (case X_u10 => k_asm); (case N_u10 => k_asm); (case p_u10 => tb_rel); (case nd_u10 => first | assumption | (rename News _ _ _ _ => N7_u10; exact nd_of N7_u10 (by tb_rel) (by k_ownIn))); (case hr_u10 => assumption); (case hx_u10 => first | exact rfl | assumption); (case k1_u10 => k_is); (case k2_u10 => k_is); (case k3_u10 => k_is); (case k4_u10 => k_is); k_whole); intro hq_u10 rs1_u10 e1_u10 sx1_u10 ln1_u10 gl1_u10 nd1_u10 hr1_u10 mx1_u10 md1_u10 Fq_u10 Nq_u10; (try (have gl2_u10 := gl1_u10 (by assumption))); (try (have m2_u10 := same_row (by assumption) sx1_u10)); (try (have len2_u10 : List.length rs1_u10 < 100 := (by omega))); (try k_sweep))
  have hS0 := hS
  have hbuf := hS.buf
  have hrow := hS.row
  obtain ⟨⟨sd, r6, k0, k1, k2, k3, k4, v4, k5, v5, k6, m1, m2⟩, ⟨bd, q0, q1, q2, u2, q3, u3, m3, m4⟩, -, -, ⟨ep, m5⟩, hGL, hlen⟩ := hS
  obtain ⟨xr, m6, ⟨xa, xb, ad, ak0, av0, ak1, av1, m7, m8⟩⟩ := hw
  have h5 := (hGL r (List.mem_of_getElem? hr)).2
  have hr0 : rs[(ai : Int).toNat]? = some r := by simpa using hr
  have hpr : p < rs.length := by omega
  unfold Spec
  intro mean mg mb dp un gdd cn cs a ccd cl outer A₀ base h₀ L m s Q E B F X N T hk' hR hU hret
  refine wpAny_call ?_
  k_dflt ktr_enter
  k_steps
  all_goals (try k_data)
  rename brkR ps ai p rs _ => hB
  have sxB := hB.sx
  rename UnsEq _ _ => hU
  subst_vars
  have hG3 := hU.gl (by assumption)
  simp only [List.set_set] at hU
  have hSR : SetR ((ai : Int).toNat) p _ _ := setR_of (by assumption) hU (by simp) rfl
  rw [Int.toNat_natCast] at hSR
  refine' hret _ _ _ _ ⟨_, _, _, rfl, rfl, hB, ?hX, fun _ => hG3, hSR⟩ ?F ?N
  case F => k_asm
  case N => exact News.sub (by k_asm) (sub_mid (b := [_]))
  case hX =>
    refine' setX_of sxB ?h1 hU ?h2 ?h3
    case h1 => assumption
    case h2 => rfl
    case h3 => rfl
theorem set_on_i (w : World) (rest : Led) (rs : List IR) (ps : Par) (sc buf row gd lks lk tabs mk rw : Addr) (kd : Str) (f : Int) (ai : Nat) (pI : Int) (r : IR) (t t2 : Tok) (nd : ND (rowsLed w.params rs ++ rest)) (hS : Sc w rest rs sc buf row gd lks lk tabs kd f) (hm : IsMk w rest mk) (hw : IsRw w rest rw)
    (hRel : RelP rs ps) (ha : ai < rs.length) (h0 : 0 ≤ pI) (hp : pI < ai) (hr : rs[((ai : Int)).toNat]? = some r) (h4 : 4 ≤ r.glyph) :
    Spec w 379 [.ref sc, .ref mk, .ref rw, .int (ai : Int) t, .int pI t2] (rowsLed w.params rs ++ rest) 4 32
      (fun v n => ∃ rs1 rs3 t', v = .int ((ai : Int) + 1) t' ∧ n = rowsLed w.params rs3 ++ rest ∧ brkR ps ai pI.toNat rs rs1 ∧ SameX rs rs3 ∧ (GL rs → GL rs3) ∧ SetR ai pI.toNat rs1 rs3) := by
  obtain ⟨p, rfl⟩ := Int.eq_ofNat_of_zero_le h0
  exact set_on_ok w rest rs ps sc buf row gd lks lk tabs mk rw kd f ai p r t t2 nd hS hm hw hRel ha (by omega) hr h4
/-- what setting a mark at a does -/
def ApR (w : World) (rest : Led) (ps : Par) (a : Nat) (rs : List IR) (v : Value) (n : Led) : Prop := ∃ (k : Int) (t : Tok) (rs3 : List IR), v = .int k t ∧ n = rowsLed w.params rs3 ++ rest ∧ SameX rs rs3 ∧ GL rs3 ∧
  ((k = -1 ∧ rs3 = rs) ∨ (k = (a : Int) + 1 ∧ ∃ p rs1, p < a ∧ brkR ps a p rs rs1 ∧ SetR a p rs1 rs3))
theorem ApR.no {w : World} {rest : Led} {ps : Par} {a : Nat} {rs : List IR} {t : Tok} (g : GL rs) : ApR w rest ps a rs (.int (-1) t) (rowsLed w.params rs ++ rest) := ⟨-1, t, rs, rfl, rfl, SameX.rfl', g, .inl ⟨rfl, rfl⟩⟩
theorem ApR.yes {w : World} {rest : Led} {ps : Par} {a p : Nat} {rs rs1 rs3 : List IR} {t : Tok} (hp : p < a) (hB : brkR ps a p rs rs1) (hX : SameX rs rs3) (hG : GL rs3) (hS : SetR a p rs1 rs3) : ApR w rest ps a rs (.int ((a : Int) + 1) t) (rowsLed w.params rs3 ++ rest) :=
  ⟨(a : Int) + 1, t, rs3, rfl, rfl, hX, hG, .inr ⟨rfl, p, rs1, hp, hB, hS⟩⟩
set_option maxHeartbeats 8000000 in
theorem is_mark_ok (w : World) (rest : Led) (rs : List IR) (sc buf row gd lks lk tabs : Addr) (kd : Str) (f k : Int) (t : Tok) (r : IR) (hS : Sc w rest rs sc buf row gd lks lk tabs kd f) (h0 : 0 ≤ k) (hr : rs[k.toNat]? = some r) :
    Spec w 358 [.ref sc, .int k t] (rowsLed w.params rs ++ rest) 3 24 (fun v n => n = rowsLed w.params rs ++ rest ∧ v = .bool (decide (4 ≤ r.glyph))) := by
  k_with_none
  k_with "call ref" => (k_here; (with_reducible show wpAny _ _ (call (Value.ref 504) _) _ _ _); k_dflt (refine' use_spec (glyph_class_b _ _ _ _ _ ?h1_u1 ?h2_u1 ?h3_u1) ?p0_u1 ?B0_u1 ?F0_u1 ?X0_u1 ?N0_u1 ?T0_u1 ?k0_u1 ?d0_u1 ?u0_u1 ?_; (case B0_u1 => k_asm); (case F0_u1 => k_asm); (case X0_u1 => k_asm); (case N0_u1 => k_asm); (case T0_u1 => k_asm); (case k0_u1 => first | exact rfl | assumption); (case p0_u1 => exact List.Perm.refl _); (case h1_u1 => first | assumption | omega); (case h2_u1 => first | assumption | omega); (case h3_u1 => first | assumption | exact IsGd.mono (by assumption) (by k_sub)); (case d0_u1 => ktr_room); (case u0_u1 => ktr_units); k_whole); intro r9_u1 n9_u1 h9_u1 t9_u1 P9_u1 F9_u1 N9_u1; obtain ⟨e9_u1, t8_u1, e8_u1⟩ := P9_u1; subst n9_u1; subst e8_u1; (try k_sweep); (try dsimp only); (try k_fold))
  k_with "call ref" => (k_here; (with_reducible show wpAny _ _ (call (Value.ref 504) _) _ _ _); k_dflt (refine' use_spec (glyph_class_m _ _ _ _ _ ?h1_u2 ?h2_u2 ?h3_u2) ?p0_u2 ?B0_u2 ?F0_u2 ?X0_u2 ?N0_u2 ?T0_u2 ?k0_u2 ?d0_u2 ?u0_u2 ?_; (case B0_u2 => k_asm); (case F0_u2 => k_asm); (case X0_u2 => k_asm); (case N0_u2 => k_asm); (case T0_u2 => k_asm); (case k0_u2 => first | exact rfl | assumption); (case p0_u2 => exact List.Perm.refl _); (case h1_u2 => first | assumption | omega); (case h2_u2 => first | assumption | omega); (case h3_u2 => first | assumption | exact IsGd.mono (by assumption) (by k_sub)); (case d0_u2 => ktr_room); (case u0_u2 => ktr_units); k_whole); intro r9_u2 n9_u2 h9_u2 t9_u2 P9_u2 F9_u2 N9_u2; obtain ⟨e9_u2, t8_u2, e8_u2⟩ := P9_u2; subst n9_u2; subst e8_u2; (try k_sweep); (try dsimp only); (try k_fold))
  k_with "call ref" => (k_here; (with_reducible show wpAny _ _ (call (Value.ref 372) _) _ _ _); k_dflt (refine' use_spec (base_ahead_ok _ _ _ _ _ _ _ _ _ _ _ _ _ _ ?h2_u9 ?h3_u9 ?h4_u9) ?p0_u9 ?B0_u9 ?F0_u9 ?X0_u9 ?N0_u9 ?T0_u9 ?k0_u9 ?d0_u9 ?u0_u9 ?_; (case B0_u9 => k_asm); (case F0_u9 => k_asm); (case X0_u9 => k_asm); (case N0_u9 => k_asm); (case T0_u9 => k_asm); (case k0_u9 => first | exact rfl | assumption); (case p0_u9 => tb_rel); (case h2_u9 => first | assumption | exact Sc.mono (by assumption) (by k_sub)); (case h3_u9 => first | assumption | omega); (case h4_u9 => first | assumption | omega); (case d0_u9 => ktr_room); (case u0_u9 => ktr_units); k_whole); intro r9_u9 n9_u9 h9_u9 t9_u9 P9_u9 F9_u9 N9_u9; obtain ⟨e9_u9, t8_u9, e8_u9⟩ := P9_u9; subst n9_u9; subst e8_u9; (try k_sweep); (try dsimp only); (try k_fold))
  k_with "call ref" => (k_here; (with_reducible show wpAny _ _ (call (Value.ref 379) _) _ _ _); k_dflt (refine' use_spec (set_on_i _ _ _ ?ps9_u18 _ _ _ _ _ _ _ _ _ _ _ _ _ ?r9_u18 _ _ ?h1_u18 ?h2_u18 ?h3_u18 ?h4_u18 ?h5_u18 ?h6_u18 ?h7_u18 ?h8_u18 ?h9_u18 ?h10_u18) ?p0_u18 ?B0_u18 ?F0_u18 ?X0_u18 ?N0_u18 ?T0_u18 ?k0_u18 ?d0_u18 ?u0_u18 ?_; (case B0_u18 => k_asm); (case F0_u18 => k_asm); (case X0_u18 => k_asm); (case N0_u18 => k_asm); (case T0_u18 => k_asm); (case k0_u18 => first | exact rfl | assumption); (case p0_u18 => tb_rel); (case h1_u18 => first | assumption | exact ND.perm (paB (List.Perm.refl _)) (by assumption) | (rename News _ _ _ _ => N7_u18; exact nd_of N7_u18 (by tb_rel) (by k_ownIn))); (case h2_u18 => first | assumption | exact Sc.mono (by assumption) (fun _ h => List.mem_append_right _ h)); (case h3_u18 => first | assumption | exact IsMk.mono (by assumption) (fun _ h => List.mem_append_right _ h)); (case h4_u18 => first | assumption | exact IsRw.mono (by assumption) (fun _ h => List.mem_append_right _ h)); (case h5_u18 => assumption); (case h6_u18 => first | assumption | omega); (case h7_u18 => first | assumption | omega); (case h8_u18 => first | assumption | omega); (case h9_u18 => assumption); (case h10_u18 => first | assumption | omega); (case d0_u18 => ktr_room); (case u0_u18 => ktr_units); k_whole); intro r9_u18 n9_u18 h9_u18 t9_u18 P9_u18 F9_u18 N9_u18; obtain ⟨rs8_u18, rs1_u18, t8_u18, e8_u18, e9_u18, P8_u18, sx1_u18, gl1_u18, S8_u18⟩ := P9_u18; subst n9_u18; subst e8_u18; (try k_sweep); (try dsimp only); (try k_fold))
  have hgd : IsGd w (rowsLed w.params rs ++ rest) gd := hS.gd.mono fun p h => List.mem_append_right _ h
  obtain ⟨cd9, cm9, ⟨d9, r91, r92, r93, r94, q90, q91, q92, q93, q94, m93, m94⟩, -, -⟩ := hS.gd
  obtain ⟨⟨sd, r6, k0, k1, k2, k3, k4, v4, k5, v5, k6, m1, m2⟩, ⟨bd, q0, q1, q2, u2, q3, u3, m3, m4⟩, -, -, ⟨ep, m5⟩, hGL, hlen⟩ := hS
  obtain ⟨hg1, hg5⟩ := hGL r (List.mem_of_getElem? hr)
  unfold Spec
  intro mean mg mb dp un gdd cn cs a ccd cl outer A₀ base h₀ L m s Q E B F X N T hk' hR hU hret
  by_cases hg : r.glyph ≤ 3
  case pos =>
    refine wpAny_call ?_
    k_dflt ktr_enter
    k_steps
    exact hret _ _ _ _ ⟨rfl, by rw [decide_eq_false (by omega)]; rfl⟩ (by k_asm) (by k_asm)
  case neg =>
    have hg4 : 4 ≤ r.glyph := by omega
    refine wpAny_call ?_
    k_dflt ktr_enter
    k_steps
    exact hret _ _ _ _ ⟨rfl, by rw [decide_eq_true hg4]; rfl⟩ (by k_asm) (by k_asm)
theorem is_mark_i (w : World) (rest : Led) (rs : List IR) (sc buf row gd lks lk tabs : Addr) (kd : Str) (f k : Int) (t : Tok) (hS : Sc w rest rs sc buf row gd lks lk tabs kd f) (h0 : 0 ≤ k) (h1 : k < (rs.length : Int)) :
    Spec w 358 [.ref sc, .int k t] (rowsLed w.params rs ++ rest) 3 24 (fun v n => n = rowsLed w.params rs ++ rest ∧ ∃ r, rs[k.toNat]? = some r ∧ v = .bool (decide (4 ≤ r.glyph))) :=
  have hr : rs[k.toNat]? = some rs[k.toNat] := List.getElem?_eq_getElem (by omega)
  (is_mark_ok w rest rs sc buf row gd lks lk tabs kd f k t _ hS h0 hr).mono (fun _ h => h) fun _ _ ⟨e, e'⟩ => ⟨e, _, hr, e'⟩
set_option maxHeartbeats 8000000 in
theorem apply_base_ok (w : World) (rest : Led) (rs : List IR) (ps : Par) (sc buf row gd lks lk tabs tb mk bs rw : Addr) (kd : Str) (f : Int) (ai : Nat) (t : Tok) (nd : ND (rowsLed w.params rs ++ rest)) (hS : Sc w rest rs sc buf row gd lks lk tabs kd f) (ht : IsTabB w.params rest tb mk bs) (hm : IsMk w rest mk) (hb : IsTb w rest bs true rw)
    (hRel : RelP rs ps) (ha : ai < rs.length) :
    Spec w 386 [.ref sc, .ref tb, .int (ai : Int) t] (rowsLed w.params rs ++ rest) 8 64 (ApR w rest ps ai rs) := by
  k_with_none
  k_with "call ref" => (k_here; (with_reducible show wpAny _ _ (call (Value.ref 504) _) _ _ _); k_dflt (refine' use_spec (glyph_class_b _ _ _ _ _ ?h1_u1 ?h2_u1 ?h3_u1) ?p0_u1 ?B0_u1 ?F0_u1 ?X0_u1 ?N0_u1 ?T0_u1 ?k0_u1 ?d0_u1 ?u0_u1 ?_; (case B0_u1 => k_asm); (case F0_u1 => k_asm); (case X0_u1 => k_asm); (case N0_u1 => k_asm); (case T0_u1 => k_asm); (case k0_u1 => first | exact rfl | assumption); (case p0_u1 => exact List.Perm.refl _); (case h1_u1 => first | assumption | omega); (case h2_u1 => first | assumption | omega); (case h3_u1 => first | assumption | exact IsGd.mono (by assumption) (by k_sub)); (case d0_u1 => ktr_room); (case u0_u1 => ktr_units); k_whole); intro r9_u1 n9_u1 h9_u1 t9_u1 P9_u1 F9_u1 N9_u1; obtain ⟨e9_u1, t8_u1, e8_u1⟩ := P9_u1; subst n9_u1; subst e8_u1; (try k_sweep); (try dsimp only); (try k_fold))
  k_with "call ref" => (k_here; (with_reducible show wpAny _ _ (call (Value.ref 504) _) _ _ _); k_dflt (refine' use_spec (glyph_class_m _ _ _ _ _ ?h1_u2 ?h2_u2 ?h3_u2) ?p0_u2 ?B0_u2 ?F0_u2 ?X0_u2 ?N0_u2 ?T0_u2 ?k0_u2 ?d0_u2 ?u0_u2 ?_; (case B0_u2 => k_asm); (case F0_u2 => k_asm); (case X0_u2 => k_asm); (case N0_u2 => k_asm); (case T0_u2 => k_asm); (case k0_u2 => first | exact rfl | assumption); (case p0_u2 => exact List.Perm.refl _); (case h1_u2 => first | assumption | omega); (case h2_u2 => first | assumption | omega); (case h3_u2 => first | assumption | exact IsGd.mono (by assumption) (by k_sub)); (case d0_u2 => ktr_room); (case u0_u2 => ktr_units); k_whole); intro r9_u2 n9_u2 h9_u2 t9_u2 P9_u2 F9_u2 N9_u2; obtain ⟨e9_u2, t8_u2, e8_u2⟩ := P9_u2; subst n9_u2; subst e8_u2; (try k_sweep); (try dsimp only); (try k_fold))
  k_with "call ref" => (k_here; (with_reducible show wpAny _ _ (call (Value.ref 372) _) _ _ _); k_dflt (refine' use_spec (base_ahead_ok _ _ _ _ _ _ _ _ _ _ _ _ _ _ ?h2_u9 ?h3_u9 ?h4_u9) ?p0_u9 ?B0_u9 ?F0_u9 ?X0_u9 ?N0_u9 ?T0_u9 ?k0_u9 ?d0_u9 ?u0_u9 ?_; (case B0_u9 => k_asm); (case F0_u9 => k_asm); (case X0_u9 => k_asm); (case N0_u9 => k_asm); (case T0_u9 => k_asm); (case k0_u9 => first | exact rfl | assumption); (case p0_u9 => tb_rel); (case h2_u9 => first | assumption | exact Sc.mono (by assumption) (by k_sub)); (case h3_u9 => first | assumption | omega); (case h4_u9 => first | assumption | omega); (case d0_u9 => ktr_room); (case u0_u9 => ktr_units); k_whole); intro r9_u9 n9_u9 h9_u9 t9_u9 P9_u9 F9_u9 N9_u9; obtain ⟨e9_u9, t8_u9, e8_u9⟩ := P9_u9; subst n9_u9; subst e8_u9; (try k_sweep); (try dsimp only); (try k_fold))
  k_with "call ref" => (k_here; (with_reducible show wpAny _ _ (call (Value.ref 379) _) _ _ _); k_dflt (refine' use_spec (set_on_i _ _ _ ?ps9_u18 _ _ _ _ _ _ _ _ _ _ _ _ _ ?r9_u18 _ _ ?h1_u18 ?h2_u18 ?h3_u18 ?h4_u18 ?h5_u18 ?h6_u18 ?h7_u18 ?h8_u18 ?h9_u18 ?h10_u18) ?p0_u18 ?B0_u18 ?F0_u18 ?X0_u18 ?N0_u18 ?T0_u18 ?k0_u18 ?d0_u18 ?u0_u18 ?_; (case B0_u18 => k_asm); (case F0_u18 => k_asm); (case X0_u18 => k_asm); (case N0_u18 => k_asm); (case T0_u18 => k_asm); (case k0_u18 => first | exact rfl | assumption); (case p0_u18 => tb_rel); (case h1_u18 => first | assumption | exact ND.perm (paB (List.Perm.refl _)) (by assumption) | (rename News _ _ _ _ => N7_u18; exact nd_of N7_u18 (by tb_rel) (by k_ownIn))); (case h2_u18 => first | assumption | exact Sc.mono (by assumption) (fun _ h => List.mem_append_right _ h)); (case h3_u18 => first | assumption | exact IsMk.mono (by assumption) (fun _ h => List.mem_append_right _ h)); (case h4_u18 => first | assumption | exact IsRw.mono (by assumption) (fun _ h => List.mem_append_right _ h)); (case h5_u18 => assumption); (case h6_u18 => first | assumption | omega); (case h7_u18 => first | assumption | omega); (case h8_u18 => first | assumption | omega); (case h9_u18 => assumption); (case h10_u18 => first | assumption | omega); (case d0_u18 => ktr_room); (case u0_u18 => ktr_units); k_whole); intro r9_u18 n9_u18 h9_u18 t9_u18 P9_u18 F9_u18 N9_u18; obtain ⟨rs8_u18, rs1_u18, t8_u18, e8_u18, e9_u18, P8_u18, sx1_u18, gl1_u18, S8_u18⟩ := P9_u18; subst n9_u18; subst e8_u18; (try k_sweep); (try dsimp only); (try k_fold))
  have hS0 := hS
  have hw : IsRw w rest rw := hb.choose_spec.2.2.2
  obtain ⟨⟨sd, r6, k0, k1, k2, k3, k4, v4, k5, v5, k6, m1, m2⟩, ⟨bd, q0, q1, q2, u2, q3, u3, m3, m4⟩, -, -, ⟨ep, m5⟩, hGL, hlen⟩ := hS
  obtain ⟨td, tk0, tk1, m6, m7⟩ := ht
  have hnb := nb_lo 8 rs ((ai : Int).toNat)
  have hai : ((ai : Int)).toNat = ai := Int.toNat_natCast ai
  unfold Spec
  intro mean mg mb dp un gdd cn cs a ccd cl outer A₀ base h₀ L m s Q E B F X N T hk' hR hU hret
  refine wpAny_call ?_
  k_dflt ktr_enter
  k_steps
  all_goals (try k_data)
  · exact hret _ _ _ _ (ApR.no hGL) (by k_asm) (by k_asm)
  · exact hret _ _ _ _ (ApR.no hGL) (by k_asm) (by k_asm)
  · exact hret _ _ _ _ (ApR.no hGL) (by k_asm) (by k_asm)
  · refine' hret _ _ _ _ (ApR.yes ?hp ?hB ?hX ?hG ?hS) ?F ?N
    case F => k_asm
    case N => k_asm
    case hS => assumption
    case hB => assumption
    case hX => assumption
    case hp => omega
    case hG => (rename GL rs → _ => g; exact g hGL)
set_option maxHeartbeats 8000000 in
theorem apply_mark_ok (w : World) (rest : Led) (rs : List IR) (ps : Par) (sc buf row gd lks lk tabs tb mk bs rw : Addr) (kd : Str) (ai : Nat) (t : Tok) (nd : ND (rowsLed w.params rs ++ rest)) (hS : Sc w rest rs sc buf row gd lks lk tabs kd 0) (ht : IsTabM w.params rest tb mk bs) (hm : IsMk w rest mk) (hb : IsTb w rest bs false rw)
    (hRel : RelP rs ps) (ha : ai < rs.length) :
    Spec w 400 [.ref sc, .ref tb, .int (ai : Int) t] (rowsLed w.params rs ++ rest) 8 64 (ApR w rest ps ai rs) := by
  k_with_none
  k_with "call ref" => (k_here; (with_reducible show wpAny _ _ (call (Value.ref 252) _) _ _ _); k_dflt (refine' use_spec (before_at_ok _ _ _ _ _ _ _ _ _ _ _ _ _ _ ?h1_u6 ?h2_u6 ?h3_u6 ?h4_u6) ?p0_u6 ?B0_u6 ?F0_u6 ?X0_u6 ?N0_u6 ?T0_u6 ?k0_u6 ?d0_u6 ?u0_u6 ?_; (case B0_u6 => k_asm); (case F0_u6 => k_asm); (case X0_u6 => k_asm); (case N0_u6 => k_asm); (case T0_u6 => k_asm); (case k0_u6 => first | exact rfl | assumption); (case p0_u6 => tb_rel); (case h2_u6 => first | assumption | exact Sc.other (by assumption) (by assumption) (by assumption) | exact Sc.mono (by assumption) (by k_sub)); (case h1_u6 => first | assumption | exact .inl rfl | exact .inr rfl); (case h3_u6 => first | assumption | omega); (case h4_u6 => first | assumption | omega); (case d0_u6 => ktr_room); (case u0_u6 => ktr_units); k_whole); intro r9_u6 n9_u6 h9_u6 t9_u6 P9_u6 F9_u6 N9_u6; obtain ⟨e9_u6, t8_u6, e8_u6⟩ := P9_u6; subst n9_u6; subst e8_u6; (try k_sweep); (try dsimp only); (try k_fold))
  k_with "call ref" => (k_here; (with_reducible show wpAny _ _ (call (Value.ref 351) _) _ _ _); k_dflt (refine' use_spec (scene_with_ok _ _ _ _ _ _ _ _ _ _ _ _ _ ?h1_u7 ?h2_u7) ?p0_u7 ?B0_u7 ?F0_u7 ?X0_u7 ?N0_u7 ?T0_u7 ?k0_u7 ?d0_u7 ?u0_u7 ?_; (case B0_u7 => k_asm); (case F0_u7 => k_asm); (case X0_u7 => k_asm); (case N0_u7 => k_asm); (case T0_u7 => k_asm); (case k0_u7 => first | exact rfl | assumption); (case p0_u7 => exact List.Perm.refl _); (case h1_u7 => first | assumption | exact IsScene.mono (by assumption) (by k_sub)); (case h2_u7 => first | assumption | exact IsLookup.mono (by assumption) (by k_sub)); (case d0_u7 => ktr_room); (case u0_u7 => ktr_units); k_whole); intro r9_u7 n9_u7 h9_u7 t9_u7 P9_u7 F9_u7 N9_u7; obtain ⟨ext8_u7, sc8_u7, lk8_u7, tb8_u7, e8_u7, e9_u7, is8_u7, il8_u7, nd8_u7⟩ := P9_u7; subst n9_u7; subst e8_u7; (try (have nd7_u7 := nd8_u7 (by assumption))); (try k_sweep); (try dsimp only); (try k_fold))
  k_with "call ref" => (k_here; (with_reducible show wpAny _ _ (call (Value.ref 379) _) _ _ _); k_dflt (refine' use_spec (set_on_i _ _ _ ?ps9_u18 _ _ _ _ _ _ _ _ _ _ _ _ _ ?r9_u18 _ _ ?h1_u18 ?h2_u18 ?h3_u18 ?h4_u18 ?h5_u18 ?h6_u18 ?h7_u18 ?h8_u18 ?h9_u18 ?h10_u18) ?p0_u18 ?B0_u18 ?F0_u18 ?X0_u18 ?N0_u18 ?T0_u18 ?k0_u18 ?d0_u18 ?u0_u18 ?_; (case B0_u18 => k_asm); (case F0_u18 => k_asm); (case X0_u18 => k_asm); (case N0_u18 => k_asm); (case T0_u18 => k_asm); (case k0_u18 => first | exact rfl | assumption); (case p0_u18 => tb_rel); (case h1_u18 => first | assumption | exact ND.perm (paB (List.Perm.refl _)) (by assumption) | (rename News _ _ _ _ => N7_u18; exact nd_of N7_u18 (by tb_rel) (by k_ownIn))); (case h2_u18 => first | assumption | exact Sc.mono (by assumption) (fun _ h => List.mem_append_right _ h)); (case h3_u18 => first | assumption | exact IsMk.mono (by assumption) (fun _ h => List.mem_append_right _ h)); (case h4_u18 => first | assumption | exact IsRw.mono (by assumption) (fun _ h => List.mem_append_right _ h)); (case h5_u18 => assumption); (case h6_u18 => first | assumption | omega); (case h7_u18 => first | assumption | omega); (case h8_u18 => first | assumption | omega); (case h9_u18 => assumption); (case h10_u18 => first | assumption | omega); (case d0_u18 => ktr_room); (case u0_u18 => ktr_units); k_whole); intro r9_u18 n9_u18 h9_u18 t9_u18 P9_u18 F9_u18 N9_u18; obtain ⟨rs8_u18, rs1_u18, t8_u18, e8_u18, e9_u18, P8_u18, sx1_u18, gl1_u18, S8_u18⟩ := P9_u18; subst n9_u18; subst e8_u18; (try k_sweep); (try dsimp only); (try k_fold))
  k_with "call ref" => (k_here; (with_reducible show wpAny _ _ (call (Value.ref 358) _) _ _ _); k_dflt (refine' use_spec (is_mark_i _ _ _ _ _ _ _ _ _ _ _ _ _ _ ?h2_u19 ?h3_u19 ?h4_u19) ?p0_u19 ?B0_u19 ?F0_u19 ?X0_u19 ?N0_u19 ?T0_u19 ?k0_u19 ?d0_u19 ?u0_u19 ?_; (case B0_u19 => k_asm); (case F0_u19 => k_asm); (case X0_u19 => k_asm); (case N0_u19 => k_asm); (case T0_u19 => k_asm); (case k0_u19 => first | exact rfl | assumption); (case p0_u19 => tb_rel); (case h2_u19 => first | assumption | exact Sc.mono (by assumption) (fun _ h => List.mem_append_right _ h)); (case h3_u19 => first | assumption | omega); (case h4_u19 => first | assumption | omega); (case d0_u19 => ktr_room); (case u0_u19 => ktr_units); k_whole); intro r9_u19 n9_u19 h9_u19 t9_u19 P9_u19 F9_u19 N9_u19; obtain ⟨e9_u19, q8_u19, hq8_u19, e8_u19⟩ := P9_u19; subst n9_u19; subst e8_u19; (try k_sweep); (try dsimp only); (try k_fold))
  have hS0 := hS
  have hw : IsRw w rest rw := hb.choose_spec.2.2.2
  have hs : IsScene w.params (rowsLed w.params rs ++ rest) sc buf gd lks lk := hS.scene.mono fun p h => List.mem_append_right _ h
  have hl : IsLookup w.params (rowsLed w.params rs ++ rest) lk kd 0 tabs := hS.lk.mono fun p h => List.mem_append_right _ h
  obtain ⟨⟨sd, r6, k0, k1, k2, k3, k4, v4, k5, v5, k6, m1, m2⟩, ⟨bd, q0, q1, q2, u2, q3, u3, m3, m4⟩, -, ⟨ld, lk0, lv0, lk1, lv1, lk2, lv2, lk3, m8, m9⟩, ⟨ep, m5⟩, hGL, hlen⟩ := hS
  obtain ⟨td, tk0, tk1, m6, m7⟩ := ht
  have hnb := nb_lo (Builtin.bitAnd 0 (Builtin.bitNot (Builtin.bitOr (Builtin.bitOr 2 4) 8))) rs ((ai : Int).toNat)
  have hai : ((ai : Int)).toNat = ai := Int.toNat_natCast ai
  unfold Spec
  intro mean mg mb dp un gdd cn cs a ccd cl outer A₀ base h₀ L m s Q E B F X N T hk' hR hU hret
  refine wpAny_call ?_
  k_dflt ktr_enter
  k_steps
  all_goals (try k_data)
  · exact hret _ _ _ _ (ApR.no hGL) (by k_asm) (News.sub (by k_asm) (by first | exact fun _ h => h | exact sub_mid))
  · exact hret _ _ _ _ (ApR.no hGL) (by k_asm) (News.sub (by k_asm) (by first | exact fun _ h => h | exact sub_mid))
  · exact hret _ _ _ _ (ApR.no hGL) (by k_asm) (News.sub (by k_asm) (by first | exact fun _ h => h | exact sub_mid))
  · refine' hret _ _ _ _ (ApR.yes ?hp ?hB ?hX ?hG ?hS) ?F ?N
    case F => k_asm
    case N => exact News.sub (by k_asm) sub_mid
    case hS => assumption
    case hB => assumption
    case hX => assumption
    case hp => omega
    case hG => (rename GL rs → _ => g; exact g hGL)
  · exact hret _ _ _ _ (ApR.no hGL) (by k_asm) (News.sub (by k_asm) (by first | exact fun _ h => h | exact sub_mid))
theorem nodup_lt : ∀ (n : Nat) (ks : List Nat), ks.Nodup → (∀ k ∈ ks, k < n) → ks.length ≤ n
  | 0, [], _, _ => Nat.le_refl _
  | 0, k :: _, _, h => absurd (h k (.head _)) (Nat.not_lt_zero _)
  | n + 1, ks, hn, h => by
    by_cases hm : n ∈ ks
    · have h1 := nodup_lt n (ks.erase n) (hn.erase n) (fun k hk => by
        have hk' := (List.Nodup.mem_erase_iff hn).mp hk
        have := h k hk'.2
        have := hk'.1
        omega)
      have h2 := List.length_erase_of_mem hm
      omega
    · have h1 := nodup_lt n ks hn (fun k hk => by
        have := h k hk
        have : k ≠ n := fun e => hm (e ▸ hk)
        omega)
      omega
theorem UpdF.nd0 {d : Addr} {o : Obj} {r : Led} (n : ND ((d, o) :: r)) : UpdF d o ((d, o) :: r) (fun o' => (d, o') :: r) := UpdF.head n.head
theorem Upd.nd0 {d : Addr} {o o' : Obj} {r : Led} (n : ND ((d, o) :: r)) : Upd d o o' ((d, o) :: r) ((d, o') :: r) := Upd.head n.head
theorem Upd.nd1 {d : Addr} {o o' : Obj} {q : Addr × Obj} {r : Led} (n : ND (q :: (d, o) :: r)) : Upd d o o' (q :: (d, o) :: r) (q :: (d, o') :: r) := Upd.tail (fun e => n.head (d, o) (.head _) e.symm) (Upd.head n.tail.head)
theorem ND.put {d : Addr} {o o' : Obj} {r : Led} (n : ND ((d, o) :: r)) : ND ((d, o') :: r) := n.same rfl
theorem ND.put1 {d : Addr} {o o' : Obj} {q : Addr × Obj} {r : Led} (n : ND (q :: (d, o) :: r)) : ND (q :: (d, o') :: r) := n.same rfl
section
variable {prog : Program} {w : World} {A : Around} {E : Value → Shared → Prop} {s : Shared} {env : Env} {h₀ : Heap} {body : List Stmt} {Q : Flow → Shared → Prop}
/-- a while with two objects of its own at the head of the ledger -/
theorem while_two {σ : Type} {L sd ln : Addr} {o₀ o₁ : Obj} {led : Led} {test : Expr} {pos : Pos} {m₀ : Str → Option Value} (Fm : (Str → Option Value) → σ → Str → Option Value) (fo fl : σ → Obj) (P : σ → Prop) (μ : σ → Nat) {c₀ : σ}
    (F : Fr h₀ L s.heap (Fm m₀ c₀)) (N : News h₀ L s.heap ((sd, o₀) :: (ln, o₁) :: led)) (e0 : fo c₀ = o₀) (e1 : fl c₀ = o₁) (nd : ND ((sd, o₀) :: (ln, o₁) :: led)) (hP : P c₀)
    (turn : ∀ c h tk, P c → ND ((sd, fo c) :: (ln, fl c) :: led) → Fr h₀ L h (Fm m₀ c) → News h₀ L h ((sd, fo c) :: (ln, fl c) :: led) →
      wpAny (model prog w) A (isTrue test env (eval test env)) (fun b s₂ =>
        if b = true then wpAny (model prog w) A (execs body env) (WhW h₀ L s m₀ Fm (fun c => (sd, fo c) :: (ln, fl c) :: led) P μ Q (μ c)) E s₂ else Q .next s₂) E { s with heap := h, toks := tk })
    (hE : PassesOwn (model prog w) A env E := by passes_own) :
    wpAny (model prog w) A (exec (.While test body [] pos) env) Q E s :=
  while_st Fm (fun c => (sd, fo c) :: (ln, fl c) :: led) P μ F (by rw [e0, e1]; exact N) hP (fun c h tk hc F' N' => turn c h tk hc (nd.same rfl) F' N') hE
theorem notin_int {d : Addr} {o : Obj} {kvs : List (Int × Value)} {k : Int} {t : Tok} {cur : Led} {L : Addr} {Q : Value → Shared → Prop} (N : News h₀ L s.heap cur) (hm : (d, o) ∈ cur) (hd : o.IsDictOf (intKind prog w) kvs) (lo : (d == sysModules) = false) (h : Q (.bool (!(valueAt kvs k).isSome)) { s with toks := s.toks + 1 }) :
    wpAny (model prog w) A (compareOp .NotIn (.int k t) (.ref d)) Q E s := kdg_notin (knd := intKind _ _) N hm hd lo (intKind_is _ _ _ _) _ rfl h
end
structure CS where
  here : Nat
  ht : Tok
  o : Obj
  kvs : List (Int × Value)
  ks : List Nat
  vs : List Value
  ep : Nat
structure CSok (w : World) (n : Nat) (c : CS) : Prop where
  here : c.here < n
  dict : c.o.IsDictOf (intKind prg w) c.kvs
  keys : c.kvs.map Prod.fst = c.ks.map Int.ofNat
  nod : c.ks.Nodup
  low : ∀ k ∈ c.ks, k < n
  len : c.vs.length = c.ks.length
  ivs : ∀ x ∈ c.vs, ∃ k t, x = Value.int k t ∧ 0 ≤ k ∧ k < (n : Int)
theorem valueAt_none {kvs : List (Int × Value)} {k : Int} (h : (!(valueAt kvs k).isSome) = true) : k ∉ kvs.map Prod.fst := fun hm => by
  obtain ⟨p, hp, e⟩ := List.mem_map.mp hm
  have : (kvs.find? fun kv => kv.1 = k).isSome = true := List.find?_isSome.mpr ⟨p, hp, by simpa using e⟩
  unfold valueAt at h
  rw [Option.isSome_map, this] at h
  cases h
theorem stored_new {kvs : List (Int × Value)} {k : Int} {v : Value} (h : k ∉ kvs.map Prod.fst) : (stored kvs k v).map Prod.fst = kvs.map Prod.fst ++ [k] := by
  unfold stored
  rw [if_neg]
  · simp
  · intro hh
    obtain ⟨p, hp, e⟩ := List.any_eq_true.mp hh
    exact h (List.mem_map.mpr ⟨p, hp, by simpa using e⟩)
theorem CSok.next {w : World} {n : Nat} {c : CS} {o' : Obj} {v : Value} {g : Nat} {t t' : Tok} {ep : Nat} (h : CSok w n c) (hn : (!(valueAt c.kvs ((c.here : Nat) : Int)).isSome) = true) (hd : o'.IsDictOf (intKind prg w) (stored c.kvs ((c.here : Nat) : Int) v)) (hg : g < n) :
    CSok w n ⟨g, t, o', stored c.kvs ((c.here : Nat) : Int) v, c.ks ++ [c.here], c.vs ++ [.int ((c.here : Nat) : Int) t'], ep⟩ := by
  have h1 := valueAt_none hn
  have h2 : c.here ∉ c.ks := fun hm => h1 (by rw [h.keys]; exact List.mem_map.mpr ⟨_, hm, rfl⟩)
  refine ⟨hg, hd, ?_, ?_, ?_, ?_, ?_⟩
  · rw [stored_new h1, h.keys, List.map_append]; rfl
  · rw [List.nodup_append]
    refine ⟨h.nod, by simp, fun a ha b hb e => ?_⟩
    rw [List.mem_singleton.mp hb] at e
    exact h2 (e ▸ ha)
  · intro k hk
    rcases List.mem_append.mp hk with hk | hk
    · exact h.low k hk
    · rw [List.mem_singleton.mp hk]; exact h.here
  · rw [List.length_append, List.length_append, h.len]; rfl
  · intro x hx
    rcases List.mem_append.mp hx with hx | hx
    · exact h.ivs x hx
    · exact ⟨_, _, List.mem_singleton.mp hx, by omega, by have := h.here; omega⟩
theorem CSok.cap {w : World} {n : Nat} {c : CS} (h : CSok w n c) : c.ks.length ≤ n := nodup_lt n c.ks h.nod h.low
theorem CSok.notin {w : World} {n : Nat} {c : CS} (h : CSok w n c) (hv : (valueAt c.kvs ((c.here : Nat) : Int)).isSome = false) : c.here ∉ c.ks := fun hm => valueAt_none (by rw [hv]; rfl) (by rw [h.keys]; exact List.mem_map.mpr ⟨_, hm, rfl⟩)
theorem CSok.capN {w : World} {n : Nat} {c : CS} (h : CSok w n c) (hv : (valueAt c.kvs ((c.here : Nat) : Int)).isSome = false) : c.ks.length + 1 ≤ n := by
  have := nodup_lt n (c.here :: c.ks) (List.nodup_cons.mpr ⟨h.notin hv, h.nod⟩) (fun k hk => by
    rcases List.mem_cons.mp hk with rfl | hk
    · exact h.here
    · exact h.low k hk)
  simpa using this
theorem fr_here {h₀ h : Heap} {L : Addr} {y : Str} {a b : Option Value} {m : Str → Option Value} (F : Fr h₀ L h (fun z => if z = y then a else if z = y then b else m z)) : Fr h₀ L h (fun z => if z = y then a else m z) := fr_put F
theorem news_push {h₀ h : Heap} {L d l : Addr} {o : Obj} {vs : List Value} {v : Value} {n : Nat} {r : Led} (N : News h₀ L h ((d, o) :: (l, listOf (vs.toArray.push v) n) :: r)) : News h₀ L h ((d, o) :: (l, listOf (vs ++ [v]).toArray n) :: r) := by
  rw [← List.push_toArray]; exact N
theorem news_push0 {h₀ h : Heap} {L l : Addr} {vs : List Value} {v : Value} {n : Nat} {r : Led} (N : News h₀ L h ((l, listOf (vs.toArray.push v) n) :: r)) : News h₀ L h ((l, listOf (vs ++ [v]).toArray n) :: r) := by
  rw [← List.push_toArray]; exact N
theorem fr_int {h₀ h : Heap} {L : Addr} {y : Str} {a b : Int} {t : Tok} {m : Str → Option Value} (e : a = b) (F : Fr h₀ L h (fun z => if z = y then some (.int a t) else m z)) : Fr h₀ L h (fun z => if z = y then some (.int b t) else m z) := e ▸ F
section
local macro_rules | `(tactic| walk_at "compareOp NotIn int ref") => `(tactic| (k_here; k_dflt (refine' notin_int ?N ?m ?d ?l ?_; (case N => k_asm); (case m => k_mem); (case d => first | assumption | exact CSok.dict (by assumption)); (case l => assumption); k_whole)))
local macro_rules | `(tactic| walk_at "setItem ref int") => `(tactic| (k_here; k_dflt (refine' kda_set (knd := PySem.intKind _ _) ?F ?N ?U ?d (intKind_is _ _ _ _) ?z ?_; (case F | N => k_asm); (case U => exact UpdF.nd0 (by assumption)); (case d => exact CSok.dict (by assumption)); (case z => rw [sizeLine_eq]; omega); k_whole); intro h7 o7 F7 N7 hd7; (have nd7 := ND.put (o' := o7) (by assumption)); (try dsimp only at N7)))
local macro_rules | `(tactic| walk_at "call builtin:list.append") => `(tactic| (k_here; k_dflt (refine' append_K ?F ?N ?U ?_ ?z; (case F | N => k_asm); (case U => exact Upd.nd1 (by assumption)); (case z => rw [List.size_toArray, sizeLine_eq]; omega); k_whole); intro h7 F7 N7))
set_option maxHeartbeats 2000000 in
theorem chain_ok (w : World) (rest : Led) (rs : List IR) (row : Addr) (ai : Nat) (t : Tok) (nd : ND (rowsLed w.params rs ++ rest)) (hrow : IsRow rest row rs) (hG : GL rs) (hz : rs.length < 100) (ha : ai < rs.length) :
    Spec w 407 [.ref row, .int (ai : Int) t] (rowsLed w.params rs ++ rest) 3 24 (fun v n => ∃ (ln : Addr) (vs : List Value) (ep : Nat), v = Value.ref ln ∧ n = (ln, listOf vs.toArray ep) :: (rowsLed w.params rs ++ rest) ∧ ND n ∧ vs.length < 100 ∧ ∀ x ∈ vs, ∃ k t, x = Value.int k t ∧ 0 ≤ k ∧ k < (rs.length : Int)) := by
  obtain ⟨ep, m5⟩ := hrow
  unfold Spec
  intro mean mg mb dp un gdd cn cs a ccd cl outer A₀ base h₀ L m s Q E B F X N T hk' hR hU hret
  k_with_none
  k_with "exec While BoolOp cons nil" => (
    (rename News _ _ _ ((_, _) :: (_, _) :: _) => N8); (rename Obj.IsDictOf (intKind _ _) _ _ => hd8);
    (refine' while_two (σ := CS) (fun m₀ c z => if z = Str.ofString "here" then some (.int (c.here : Int) c.ht) else m₀ z) (fun c => c.o) (fun c => listOf c.vs.toArray c.ep) (CSok w rs.length) (fun c => rs.length - c.ks.length) (c₀ := ⟨ai, _, _, [], [], [], _⟩) ?F N8 rfl rfl ?nd ?hP ?turn); (case F => k_asm); k_whole;
    (case nd => k_ownIn);
    (case hP => exact ⟨ha, hd8, rfl, .nil, fun _ h => (nomatch h), rfl, fun _ h => (nomatch h)⟩);
    rintro c9 hh9 tk9 hc9 nd9 F9 N9; (have cap9 := hc9.cap); (have low9 := hc9.here); (have len9 := hc9.len); (have kl9 := congrArg List.length hc9.keys); rw [List.length_map, List.length_map] at kl9; dsimp only at F9; clear N8 hd8)
  refine wpAny_call ?_
  k_dflt ktr_enter
  k_steps
  · exact hret _ _ _ _ ⟨_, _, _, rfl, rfl, nd9.tail, by omega, hc9.ivs⟩ (by k_asm) (News.sub (by k_asm) (fun _ h => List.mem_cons_of_mem _ h))
  · rename 0 ≤ (c9.here : Int) + _ => h0
    rename (c9.here : Int) + _ < _ => h1
    rename (valueAt _ _).isSome = false => hv
    rename Obj.IsDictOf _ _ (stored _ _ _) => hst
    exact WhW.go (CS.mk (((c9.here : Int) + _).toNat) _ _ _ (c9.ks ++ [c9.here]) _ _) (fr_put (fr_int (Int.toNat_of_nonneg h0).symm (by k_asm))) (news_push (by k_asm)) (by dsimp only; rw [List.length_append]; have := hc9.capN hv; simp only [List.length_cons, List.length_nil]; omega) (hc9.next (by rw [hv]; rfl) hst (by omega))
  · exact hret _ _ _ _ ⟨_, _, _, rfl, rfl, nd9.tail, by omega, hc9.ivs⟩ (by k_asm) (News.sub (by k_asm) (fun _ h => List.mem_cons_of_mem _ h))
  · exact hret _ _ _ _ ⟨_, _, _, rfl, rfl, nd9.tail, by omega, hc9.ivs⟩ (by k_asm) (News.sub (by k_asm) (fun _ h => List.mem_cons_of_mem _ h))
  · exact hret _ _ _ _ ⟨_, _, _, rfl, rfl, nd9.tail, by omega, hc9.ivs⟩ (by k_asm) (News.sub (by k_asm) (fun _ h => List.mem_cons_of_mem _ h))
end
theorem chain_i (w : World) (rest : Led) (rs : List IR) (row : Addr) (k : Int) (t : Tok) (nd : ND (rowsLed w.params rs ++ rest)) (hrow : IsRow rest row rs) (hG : GL rs) (hz : rs.length < 100) (h0 : 0 ≤ k) (h1 : k < (rs.length : Int)) :
    Spec w 407 [.ref row, .int k t] (rowsLed w.params rs ++ rest) 3 24 (fun v n => ∃ (ln : Addr) (vs : List Value) (ep : Nat), v = Value.ref ln ∧ n = (ln, listOf vs.toArray ep) :: (rowsLed w.params rs ++ rest) ∧ ND n ∧ vs.length < 100 ∧ ∀ x ∈ vs, ∃ k t, x = Value.int k t ∧ 0 ≤ k ∧ k < (rs.length : Int)) := by
  obtain ⟨n, rfl⟩ := Int.eq_ofNat_of_zero_le h0
  exact chain_ok w rest rs row n t nd hrow hG hz (by omega)
/-- rows whose parents stay or are let go -/
structure PSub (rs rs1 : List IR) : Prop where
  sx : SameX rs rs1
  gl : GL rs → GL rs1
  sub : ∀ (i : Nat) (r1 : IR), rs1[i]? = some r1 → ∃ r, rs[i]? = some r ∧ (r1.parent = r.parent ∨ r1.parent = 0)
theorem PSub.refl' {rs : List IR} : PSub rs rs := ⟨SameX.rfl', fun h => h, fun i r1 h => ⟨r1, h, .inl rfl⟩⟩
theorem PSub.trans {a b c : List IR} (h : PSub a b) (k : PSub b c) : PSub a c :=
  ⟨h.sx.trans k.sx, fun g => k.gl (h.gl g), fun i r1 hr => by
    obtain ⟨r2, h2, e2⟩ := k.sub i r1 hr
    obtain ⟨r3, h3, e3⟩ := h.sub i r2 h2
    refine ⟨r3, h3, ?_⟩
    rcases e2 with e2 | e2
    · rw [e2]; exact e3
    · exact .inr e2⟩
theorem PSub.set {rs : List IR} {i : Nat} {r r' : IR} (hr : rs[i]? = some r) (hx : r'.x = r.x) (hd : r'.d = r.d) (hg : r'.glyph = r.glyph) (hp : r'.parent = r.parent ∨ r'.parent = 0) : PSub rs (rs.set i r') :=
  ⟨SameX.set hr hx hd, fun g => g.set hr hg, fun j r1 h1 => by
    rw [List.getElem?_set] at h1
    split at h1
    · rename_i e; subst e
      split at h1
      · cases h1; exact ⟨r, hr, hp⟩
      · cases h1
    · exact ⟨r1, h1, .inl rfl⟩⟩
theorem PSub.of {rs rs1 : List IR} {i : Nat} {r r' : IR} (e : rs1 = rs.set i r') (hr : rs[i]? = some r) (hx : r'.x = r.x) (hd : r'.d = r.d) (hg : r'.glyph = r.glyph) (hp : r'.parent = r.parent ∨ r'.parent = 0) : PSub rs rs1 := e ▸ PSub.set hr hx hd hg hp
theorem PSub.len {a b : List IR} (h : PSub a b) : b.length = a.length := h.sx.len
/-- each parent leads into the row -/
def InR (rs : List IR) : Prop := ∀ (i : Nat) (r : IR), rs[i]? = some r → 0 ≤ (i : Int) + r.parent ∧ (i : Int) + r.parent < (rs.length : Int)
theorem PSub.inr {a b : List IR} (h : PSub a b) (k : InR a) : InR b := fun i r1 h1 => by
  obtain ⟨r, hr, e⟩ := h.sub i r1 h1
  have := k i r hr
  have hl := h.len
  have hi := (List.getElem?_eq_some_iff.mp h1).1
  rcases e with e | e
  · rw [e, hl]; exact this
  · rw [e]; omega
section
local macro_rules | `(tactic| walk_at "setAttr ref") => `(tactic| k_extra "setAttr ref")
set_option maxHeartbeats 8000000 in
theorem add_place_ok (w : World) (rest : Led) (rs : List IR) (i j : Nat) (r q : IR) (x y : Addr) (nd : ND (rowsLed w.params rs ++ rest)) (hr : rs[i]? = some r) (hq : rs[j]? = some q) (hx : r.x = x) (hy : q.x = y) :
    Spec w 414 [.ref x, .ref y] (rowsLed w.params rs ++ rest) 1 8 (fun v n => v = .none ∧ ∃ rs1, n = rowsLed w.params rs1 ++ rest ∧ PSub rs rs1) := by
  have mx := rows_x (P := w.params) (List.mem_of_getElem? hr)
  have md := rows_d (P := w.params) (List.mem_of_getElem? hr)
  have nx := rows_x (P := w.params) (List.mem_of_getElem? hq)
  have nd' := rows_d (P := w.params) (List.mem_of_getElem? hq)
  have hr0 := hr
  have hq0 := hq
  rw [hx] at mx
  rw [hy] at nx
  unfold Spec
  intro mean mg mb dp un gdd cn cs a ccd cl outer A₀ base h₀ L m s Q E B F X N T hk' hR hU hret
  k_with_none
  k_with "setAttr ref" => (k_here; (with_reducible show wpAny _ _ (setAttr (Value.ref _) (Str.ofString "x_offset") (Value.int _ _)) _ _ _); k_dflt (refine' set_xo ?F5 ?X5 ?N5 ?p5 ?nd hr0 hx ?k15 ?k25 ?k35 ?k45 ?_; (case F5 => k_asm); (case X5 => k_asm); (case N5 => k_asm); (case p5 => tb_rel); (case nd => assumption); (case k15 => k_is); (case k25 => k_is); (case k35 => k_is); (case k45 => k_is); k_whole); intro h' rs1 e1 sx1 ln1 gl1 nd1 hr1 mx1 md1 F' N'; obtain ⟨q1, hq1, hx1, hd1⟩ := SameX.at sx1 hq0; (have nx1 := rows_x (P := w.params) (List.mem_of_getElem? hq1)); (have nd1' := rows_d (P := w.params) (List.mem_of_getElem? hq1)); rw [hx1, hy] at nx1; clear nx nd' mx md)
  k_with "setAttr ref" => (k_here; (with_reducible show wpAny _ _ (setAttr (Value.ref _) (Str.ofString "y_offset") (Value.int _ _)) _ _ _); k_dflt (first | (refine' set_yo ?F5 ?X5 ?N5 ?p5 nd1 hr1 hx ?k15 ?k25 ?k35 ?k45 ?_; (case F5 => k_asm); (case X5 => k_asm); (case N5 => k_asm); (case p5 => tb_rel); (case k15 => k_is); (case k25 => k_is); (case k35 => k_is); (case k45 => k_is); k_whole) | (refine' set_yo ?F5 ?X5 ?N5 ?p5 nd hr0 hx ?k15 ?k25 ?k35 ?k45 ?_; (case F5 => k_asm); (case X5 => k_asm); (case N5 => k_asm); (case p5 => tb_rel); (case k15 => k_is); (case k25 => k_is); (case k35 => k_is); (case k45 => k_is); k_whole)); intro h7 rs7 e7 sx7 ln7 gl7 nd7 hr7 mx7 md7 F7 N7)
  refine wpAny_call ?_
  k_dflt ktr_enter
  k_steps
  · exact hret _ _ _ _ ⟨rfl, rs7, rfl, (PSub.of e1 hr0 rfl rfl rfl (.inl rfl)).trans (PSub.of e7 hr1 rfl rfl rfl (.inl rfl))⟩ (by k_asm) (by k_asm)
  · exact hret _ _ _ _ ⟨rfl, rs7, rfl, PSub.of e7 hr0 rfl rfl rfl (.inl rfl)⟩ (by k_asm) (by k_asm)
end
section
local macro_rules | `(tactic| walk_at "setAttr ref") => `(tactic| k_extra "setAttr ref")
set_option maxHeartbeats 8000000 in
theorem take_ok (w : World) (rest : Led) (rs : List IR) (i a b : Nat) (r : IR) (x l : Addr) (sg : List IR) (ep : Nat) (t : Tok) (nd : ND (rowsLed w.params rs ++ rest)) (hr : rs[i]? = some r) (hx : r.x = x) (hl : (l, listOf (rowOf sg).toArray ep) ∈ rest) (hS8 : Seg rs sg a b) :
    Spec w 421 [.ref x, .ref l, .int 1 t] (rowsLed w.params rs ++ rest) 2 16 (fun v n => v = .none ∧ ∃ rs1, n = rowsLed w.params rs1 ++ rest ∧ PSub rs rs1) := by
  unfold Spec
  intro mean mg mb dp un gdd cn cs a ccd cl outer A₀ base h₀ L m s Q E B F X N T hk' hR hU hret
  k_with_none
  k_with "exec For Name Name cons nil" => (k_here; (rename Fr _ _ _ _ => lF'); (with_unfolding_all refine' For_invVF lF' ?k15 ?k25 ?_; (case k15 => exact rfl); (case k25 => exact rfl); k_whole))
  k_with "pyIter ref" => (
    (rename Fr _ _ _ _ => lF'); (rename News _ _ _ _ => lN');
    (with_unfolding_all refine' for_rows (fun _ rs1 => PSub rs rs1) nd (by rfl) ?hlF lF' lN' ?subF PSub.refl' (fun _ _ h => h.sx) ?turnF ?doneF);
    (case hlF => exact hl);
    (case subF => exact fun p hp => hp);
    (case' turnF => (rintro i9 v9 rs9 hh9 tk9 I9 oI9 hi9 hU9 nd9 F9 N9; obtain ⟨q9, hq9, e9⟩ := row_elem hi9 hS8 hU9.sx; subst e9; obtain ⟨r9, hr9, hx9, hd9⟩ := SameX.at hU9.sx hr; (rw [hx] at hx9); (have nx9 := rows_x (P := w.params) (List.mem_of_getElem? hq9)); (have nd9' := rows_d (P := w.params) (List.mem_of_getElem? hq9)); (have mx9 := rows_x (P := w.params) (List.mem_of_getElem? hr9)); (have md9 := rows_d (P := w.params) (List.mem_of_getElem? hr9)); rw [hx9] at mx9; clear lF' lN'));
    (case' doneF => (rintro rs9 u9 hh9 tk9 hU9 nd9 F9 N9; clear lF' lN')))
  k_with "setAttr ref" => (k_here; (with_reducible show wpAny _ _ (setAttr (Value.ref _) (Str.ofString "x_offset") (Value.int _ _)) _ _ _); k_dflt (refine' set_xo ?F5 ?X5 ?N5 ?p5 nd9 hr9 hx9 ?k15 ?k25 ?k35 ?k45 ?_; (case F5 => k_asm); (case X5 => k_asm); (case N5 => k_asm); (case p5 => tb_rel); (case k15 => k_is); (case k25 => k_is); (case k35 => k_is); (case k45 => k_is); k_whole); intro h8 rs8 e8 sx8 ln8 gl8 nd8 hr8 mx8 md8 F8 N8; obtain ⟨q8, hq8, hx8, hd8⟩ := SameX.at sx8 hq9; (have nx8 := rows_x (P := w.params) (List.mem_of_getElem? hq8)); (have nd8' := rows_d (P := w.params) (List.mem_of_getElem? hq8)); rw [hx8] at nx8; clear nx9 nd9' mx9 md9)
  k_with "setAttr ref" => (k_here; (with_reducible show wpAny _ _ (setAttr (Value.ref _) (Str.ofString "y_offset") (Value.int _ _)) _ _ _); k_dflt (refine' set_yo ?F5 ?X5 ?N5 ?p5 nd8 hr8 hx9 ?k15 ?k25 ?k35 ?k45 ?_; (case F5 => k_asm); (case X5 => k_asm); (case N5 => k_asm); (case p5 => tb_rel); (case k15 => k_is); (case k25 => k_is); (case k35 => k_is); (case k45 => k_is); k_whole); intro h7 rs7 e7 sx7 ln7 gl7 nd7 hr7 mx7 md7 F7 N7)
  refine wpAny_call ?_
  k_dflt ktr_enter
  k_steps
  · exact hret _ _ _ _ ⟨rfl, rs9, rfl, hU9⟩ (by k_asm) (by k_asm)
  · exact ForW.rows nd7 (by k_asm) (by k_asm) (fun _ h => h) (hU9.trans ((PSub.of e8 hr9 rfl rfl rfl (.inl rfl)).trans (PSub.of e7 hr8 rfl rfl rfl (.inl rfl))))
end
section
local macro_rules | `(tactic| walk_at "setAttr ref") => `(tactic| k_extra "setAttr ref")
local macro_rules | `(tactic| walk_at "subscriptTail") => `(tactic| k_extra "subscriptTail")
local macro_rules | `(tactic| walk_at "call ref") => `(tactic| k_extra "call ref")
set_option maxHeartbeats 8000000 in
theorem settle_one_ok (w : World) (rest : Led) (rs : List IR) (buf row : Addr) (k : Int) (t : Tok) (nd : ND (rowsLed w.params rs ++ rest)) (hbuf : IsBuf w.params rest buf row) (hrow : IsRow rest row rs) (hG : GL rs) (hz : rs.length < 100) (hin : InR rs) (h0 : 0 ≤ k) (h1 : k < (rs.length : Int)) :
    Spec w 428 [.ref buf, .int k t] (rowsLed w.params rs ++ rest) 3 24 (fun v n => v = .none ∧ ∃ rs1, n = rowsLed w.params rs1 ++ rest ∧ PSub rs rs1) := by
  obtain ⟨ep, m5⟩ := hrow
  obtain ⟨bd, q0, q1, q2, u2, q3, u3, m3, m4⟩ := hbuf
  have hr0 : rs[k.toNat]? = some rs[k.toNat] := List.getElem?_eq_getElem (by omega)
  generalize rs[k.toNat] = r at hr0
  have hb := hin _ _ hr0
  have hq0 : rs[(k + r.parent).toNat]? = some rs[(k + r.parent).toNat] := List.getElem?_eq_getElem (by omega)
  generalize rs[(k + r.parent).toNat] = q at hq0
  have mx := rows_x (P := w.params) (List.mem_of_getElem? hr0)
  have md := rows_d (P := w.params) (List.mem_of_getElem? hr0)
  unfold Spec
  intro mean mg mb dp un gdd cn cs a ccd cl outer A₀ base h₀ L m s Q E B F X N T hk' hR hU hret
  k_with_none
  k_with "subscriptTail" => (k_here; (with_reducible show wpAny _ _ (subscriptTail _ _ (Value.ref _) (Value.int _ _)) _ _ _); k_dflt (refine' row_at ?X5 ?N5 ?m5 hz hG h0 hr0 ?_; (case X5 => k_asm); (case N5 => k_asm); (case m5 => k_mem); k_whole); intro hx8 hd8 hg8 hh8)
  k_with "subscriptTail" => (k_here; (with_reducible show wpAny _ _ (subscriptTail _ _ (Value.ref _) (Value.int _ _)) _ _ _); k_dflt (refine' row_at ?X5 ?N5 ?m5 hz1 hG1 ?z5 hq1 ?_; (case X5 => k_asm); (case N5 => k_asm); (case m5 => exact List.mem_append_right _ m51); (case z5 => omega); k_whole); intro hx7 hd7 hg7 hh7)
  k_with "setAttr ref" => (k_here; (with_reducible show wpAny _ _ (setAttr (Value.ref _) (Str.ofString "parent") (Value.int _ _)) _ _ _); k_dflt (refine' set_parent ?F5 ?X5 ?N5 ?p5 nd hr0 rfl ?k15 ?k25 ?k35 ?k45 ?_; (case F5 => k_asm); (case X5 => k_asm); (case N5 => k_asm); (case p5 => tb_rel); (case k15 => k_is); (case k25 => k_is); (case k35 => k_is); (case k45 => k_is); k_whole); intro h1' rs1 e1 sx1 ln1 gl1 nd1 hr1 mx1 md1 F1 N1; obtain ⟨q1', hq1, hx1, hd1⟩ := SameX.at sx1 hq0; (have hG1 := gl1 hG); (have m51 := same_row m5 sx1); (have hz1 : rs1.length < 100 := (by omega)); clear mx md)
  k_with "call ref" => (k_here; (with_reducible show wpAny _ _ (call (Value.ref 414) _) _ _ _); k_dflt (refine' use_spec (add_place_ok _ _ _ _ _ _ _ _ _ nd1 hr1 hq1 rfl rfl) ?p05 ?B05 ?F05 ?X05 ?N05 ?T05 ?k05 ?d05 ?u05 ?_; (case B05 => k_asm); (case F05 => k_asm); (case X05 => k_asm); (case N05 => k_asm); (case T05 => k_asm); (case k05 => first | exact rfl | assumption); (case p05 => tb_rel); (case d05 => ktr_room); (case u05 => ktr_units); k_whole); intro r9 n9 h9 t9 P9 F9 N9; obtain ⟨e8, rs2, e9, U8⟩ := P9; subst n9; subst e8; (have nd2 := U8.sx.nd nd1); obtain ⟨r2, hr2, hx2, hd2⟩ := SameX.at U8.sx hr1; (have m52 := same_row m51 U8.sx); (have hG2 := U8.gl hG1); (have hz2 : rs2.length < 100 := by rw [U8.len]; exact hz1); (have ln2 := U8.len); (have mx2 := rows_x (P := w.params) (List.mem_of_getElem? hr2)); (have md2 := rows_d (P := w.params) (List.mem_of_getElem? hr2)); rw [hx2] at mx2)
  k_with "call ref" => (k_here; (with_reducible show wpAny _ _ (call (Value.ref 421) _) _ _ _); k_dflt ((rename Seg rs2 _ _ _ => hS8); (rename ND (_ ++ (_, _) :: _) => nd8); refine' use_spec (take_ok _ _ _ _ _ _ _ _ _ _ _ _ nd8 hr2 hx2 ?l05 hS8) ?p05 ?B05 ?F05 ?X05 ?N05 ?T05 ?k05 ?d05 ?u05 ?_; (case B05 => k_asm); (case F05 => k_asm); (case X05 => k_asm); (case N05 => k_asm); (case T05 => k_asm); (case k05 => first | exact rfl | assumption); (case p05 => tb_rel); (case l05 => exact List.Mem.head _); (case d05 => ktr_room); (case u05 => ktr_units); k_whole); intro r9 n9 h9 t9 P9 F9 N9; obtain ⟨e8, rs3, e9, U9⟩ := P9; subst n9; subst e8)
  refine wpAny_call ?_
  k_dflt ktr_enter
  k_steps
  · exact hret _ _ _ _ ⟨rfl, rs3, rfl, (PSub.of e1 hr0 rfl rfl rfl (.inr rfl)).trans (U8.trans U9)⟩ (by k_asm) (News.sub (by k_asm) (sub_mid (b := [_])))
  · exact hret _ _ _ _ ⟨rfl, rs2, rfl, (PSub.of e1 hr0 rfl rfl rfl (.inr rfl)).trans U8⟩ (by k_asm) (by k_asm)
end
section
variable {prog : Program} {w : World} {A : Around} {E : Value → Shared → Prop} {s : Shared} {env : Env} {h₀ : Heap} {x : Str} {body : List Stmt} {Q : Flow → Shared → Prop} {rs : List IR} {led : Led} {m₀ : Str → Option Value}
theorem for_rev {σ : Type} {l D : Addr} {vs : List Value} {ep : Nat} (Fm : (Str → Option Value) → σ → Str → Option Value) (Ld : σ → Led) (P : Nat → σ → Prop) {c₀ : σ}
    (hh : A.handled = none) (hl : ∀ i c, P i c → (l, listOf vs.toArray ep) ∈ Ld c)
    (F : Fr h₀ env.locals s.heap (Fm m₀ c₀)) (N : News h₀ env.locals s.heap ((D, revObj l ((vs.length : Int) - 1)) :: Ld c₀)) (hn : ∀ p ∈ Ld c₀, p.1 ≠ D) (hP : P 0 c₀)
    (turn : ∀ (i : Nat) v c h tk I oI, vs[vs.length - 1 - i]? = some v → P i c → (∀ p ∈ Ld c, p.1 ≠ I) → Fr h₀ env.locals h (fun y => if y = x then some v else Fm m₀ c y) → News h₀ env.locals h ((I, oI) :: Ld c) →
      wpAny (model prog w) A (execs body env) (ForW h₀ env.locals s x I oI m₀ Fm Ld (P (i + 1)) Q) E { s with heap := h, toks := tk })
    (done : ∀ c u h tk, P vs.length c → Fr h₀ env.locals h (fun y => if y = x then u else Fm m₀ c y) → News h₀ env.locals h (Ld c) → Q .next { s with heap := h, toks := tk }) :
    wpAny (model prog w) A (pyIter (.ref D)) (fun it s₂ => LoopAtV prog w A h₀ env x body Q E it s₂) E s := by
  have hD := N _ (List.mem_cons_self ..)
  have hlc := hl 0 c₀ hP
  have hne : l ≠ D := hn _ hlc
  have hL := N _ (List.mem_cons_of_mem _ hlc)
  have hls : s.heap.IsList l vs.toArray := ⟨_, hL.1, rfl, _, rfl⟩
  have hit : s.heap.IsRevIter D l ((vs.length : Int) - 1) := ⟨_, hD.1, rfl, rfl⟩
  refine wpAny_pyIter_revIter hit ?_
  have W := Walks.listRev (prog := prog) (w := w) hh D l hne vs.toArray
  have hlen : vs.toArray.size = vs.length := by simp
  rw [hlen] at W
  refine for_walks Fm Ld P W (fun i h st => by obtain ⟨o, e, _⟩ := st.2.1; exact ⟨o, e⟩) (fun b hb => ?_) (fun hm => ?_) hD.2.2 hn
    ⟨Nat.zero_le _, by simpa using hit, hls⟩ F (fun p hp => N p (List.mem_cons_of_mem _ hp)) hP ?_ done
  · rcases List.mem_cons.mp hb with e | hb
    · exact .inl e
    · exact .inr ⟨_, fun i c hc => (List.mem_singleton.mp hb) ▸ hl i c hc⟩
  · rcases List.mem_cons.mp hm with e | hm
    · exact hD.2.1 e.symm
    · exact hL.2.1 (List.mem_singleton.mp hm).symm
  · intro i v c h tk oI hi hV hc hn' F' N'
    exact turn i v c h tk _ oI (by simpa using hV) hc hn' F' N'
theorem for_rows_rev {l D : Addr} {vs : List Value} {ep : Nat} (U : Nat → List IR → Prop) (nd : ND (rowsLed w.params rs ++ led)) (hh : A.handled = none) (hl : (l, listOf vs.toArray ep) ∈ led)
    (F : Fr h₀ env.locals s.heap m₀) (N : News h₀ env.locals s.heap ((D, revObj l ((vs.length : Int) - 1)) :: (rowsLed w.params rs ++ led))) (hn : ∀ p ∈ rowsLed w.params rs ++ led, p.1 ≠ D) (hP : U 0 rs) (hsx : ∀ i rs1, U i rs1 → SameX rs rs1)
    (turn : ∀ (i : Nat) v rs1 h tk I oI, vs[vs.length - 1 - i]? = some v → U i rs1 → ND (rowsLed w.params rs1 ++ (I, oI) :: led) → Fr h₀ env.locals h (fun y => if y = x then some v else m₀ y) → News h₀ env.locals h ((I, oI) :: (rowsLed w.params rs1 ++ led)) →
      wpAny (model prog w) A (execs body env) (ForW h₀ env.locals s x I oI m₀ (fun m _ => m) (fun rs1 => rowsLed w.params rs1 ++ led) (U (i + 1)) Q) E { s with heap := h, toks := tk })
    (done : ∀ rs1 u h tk, U vs.length rs1 → ND (rowsLed w.params rs1 ++ led) → Fr h₀ env.locals h (fun y => if y = x then u else m₀ y) → News h₀ env.locals h (rowsLed w.params rs1 ++ led) → Q .next { s with heap := h, toks := tk }) :
    wpAny (model prog w) A (pyIter (.ref D)) (fun it s₂ => LoopAtV prog w A h₀ env x body Q E it s₂) E s :=
  for_rev (fun m _ => m) (fun rs1 => rowsLed w.params rs1 ++ led) U hh (fun _ _ _ => List.mem_append_right _ hl) F N hn hP
    (fun i v rs1 h tk I oI hv hU hn F' N' => turn i v rs1 h tk I oI hv hU (ND.mid ((hsx _ _ hU).nd nd) hn) F' N')
    (fun rs1 u h tk hU F' N' => done rs1 u h tk hU ((hsx _ _ hU).nd nd) F' N')
theorem for_rows_range2 {r : Addr} {z : Str} {a b : Int} {t u v : Tok} {n : Nat} {cur : Led} (U : Nat → List IR → Prop) (nd : ND (rowsLed w.params rs ++ led)) (hh : A.handled = none) (hr : IsRange s.heap r a b 1 t u v) (hsm : Builtin.Range.small a b 1 = true) (hn : Builtin.Range.rangeSize a b 1 = ((n : Nat) : Int))
    (F : Fr h₀ env.locals s.heap m₀) (N : News h₀ env.locals s.heap cur) (sub : ∀ p ∈ rowsLed w.params rs ++ led, p ∈ cur) (hP : U 0 rs) (hsx : ∀ i rs1, U i rs1 → SameX rs rs1)
    (turn : ∀ (i : Nat) t rs1 pv h tk I oI, i < n → U i rs1 → ND (rowsLed w.params rs1 ++ (I, oI) :: led) → Fr h₀ env.locals h (fun y => if y = x then some (.int (a + (i : Int)) t) else if y = z then pv else m₀ y) → News h₀ env.locals h ((I, oI) :: (rowsLed w.params rs1 ++ led)) →
      wpAny (model prog w) A (execs body env) (ForW h₀ env.locals s x I oI m₀ (fun m c y => if y = z then c.2 else m y) (fun c : List IR × Option Value => rowsLed w.params c.1 ++ led) (fun c => U (i + 1) c.1) Q) E { s with heap := h, toks := tk })
    (done : ∀ rs1 u pv h tk, U n rs1 → ND (rowsLed w.params rs1 ++ led) → Fr h₀ env.locals h (fun y => if y = x then u else if y = z then pv else m₀ y) → News h₀ env.locals h (rowsLed w.params rs1 ++ led) → Q .next { s with heap := h, toks := tk }) :
    wpAny (model prog w) A (pyIter (.ref r)) (fun it s₂ => LoopAtV prog w A h₀ env x body Q E it s₂) E s :=
  for_range (σ := List IR × Option Value) (c₀ := (rs, m₀ z)) (m₀ := m₀) (fun m c y => if y = z then c.2 else m y) (fun c => rowsLed w.params c.1 ++ led) (fun i c => U i c.1) hh hr hsm hn ((own_self z m₀) ▸ F) (News.sub N sub) hP
    (fun i t c h tk I oI hi hU hn F' N' => turn i t c.1 c.2 h tk I oI hi hU (ND.mid ((hsx _ _ hU).nd nd) hn) F' N')
    (fun c u h tk hU F' N' => done c.1 u c.2 h tk hU ((hsx _ _ hU).nd nd) F' N')
theorem ForW.rows2 {I L : Addr} {z : Str} {oI : Obj} {U : List IR → Prop} {h' : Heap} {tk : Nat} {u pv : Option Value} {cur : Led} {rs1 : List IR} (nd : ND (rowsLed w.params rs1 ++ (I, oI) :: led)) (F : Fr h₀ L h' (fun y => if y = x then u else if y = z then pv else m₀ y)) (N : News h₀ L h' cur)
    (sub : ∀ p ∈ rowsLed w.params rs1 ++ (I, oI) :: led, p ∈ cur) (hP : U rs1) : ForW h₀ L s x I oI m₀ (fun m c y => if y = z then c.2 else m y) (fun c : List IR × Option Value => rowsLed w.params c.1 ++ led) (fun c => U c.1) Q .next { s with heap := h', toks := tk } :=
  ForW.go (rs1, pv) F (fun p hp => N p (sub p (List.perm_middle.mem_iff.mpr hp))) nd.mid' hP
end
/-- all parents are let go, up to a place -/
structure Zer (rs : List IR) (i : Nat) (rs1 : List IR) : Prop where
  sx : SameX rs rs1
  gl : GL rs1
  zero : ∀ (j : Nat) (r : IR), j < i → rs1[j]? = some r → r.parent = 0
theorem Zer.next {rs rs1 rs2 : List IR} {i : Nat} {r : IR} {t : Tok} (h : Zer rs i rs1) (hr : rs1[0 + i]? = some r) (e : rs2 = rs1.set (0 + i) { r with parent := 0, v14 := t }) : Zer rs (i + 1) rs2 := by
  subst e
  rw [Nat.zero_add] at *
  refine ⟨h.sx.trans (SameX.set hr rfl rfl), h.gl.set hr rfl, fun j q hj hq => ?_⟩
  rw [List.getElem?_set] at hq
  split at hq
  · split at hq
    · cases hq; rfl
    · cases hq
  · exact h.zero j q (by omega) hq
theorem SameX.symm' {a b : List IR} (h : SameX a b) : SameX b a := Eq.symm h
theorem seg_all {rs : List IR} : Seg rs rs 0 rs.length := by unfold Seg; simp
section
local macro_rules | `(tactic| walk_at "setAttr ref") => `(tactic| k_extra "setAttr ref")
local macro_rules | `(tactic| walk_at "exec For Name Attribute cons nil") => `(tactic| k_extra "exec For Name Attribute cons nil")
set_option maxHeartbeats 1000000 in
theorem settle_ok (w : World) (rest : Led) (rs : List IR) (buf row : Addr) (nd : ND (rowsLed w.params rs ++ rest)) (hbuf : IsBuf w.params rest buf row) (hrow : IsRow rest row rs) (hG : GL rs) (hz : rs.length < 100) (hin : InR rs) :
    Spec w 435 [.ref buf] (rowsLed w.params rs ++ rest) 4 32 (fun v n => v = .none ∧ ∃ rs1, n = rowsLed w.params rs1 ++ rest ∧ Zer rs rs.length rs1) := by
  have hbuf0 := hbuf
  obtain ⟨ep, m5⟩ := hrow
  obtain ⟨bd, q0, q1, q2, u2, q3, u3, m3, m4⟩ := hbuf
  unfold Spec
  intro mean mg mb dp un gdd cn cs a ccd cl outer A₀ base h₀ L m s Q E B F X N T hk' hR hU hret
  k_with_none
  k_with "call ref" => (k_here; (with_reducible show wpAny _ _ (call (Value.ref 428) _) _ _ _); k_dflt (refine' use_spec (settle_one_ok _ _ _ _ _ _ _ ?h1_u23 ?h2_u23 ?h3_u23 ?h4_u23 ?h5_u23 ?h6_u23 ?h7_u23 ?h8_u23) ?p0_u23 ?B0_u23 ?F0_u23 ?X0_u23 ?N0_u23 ?T0_u23 ?k0_u23 ?d0_u23 ?u0_u23 ?_; (case B0_u23 => k_asm); (case F0_u23 => k_asm); (case X0_u23 => k_asm); (case N0_u23 => k_asm); (case T0_u23 => k_asm); (case k0_u23 => first | exact rfl | assumption); (case p0_u23 => tb_rel); (case h1_u23 => first | assumption | (rename News _ _ _ _ => N7_u23; exact nd_of N7_u23 (by tb_rel) (by k_ownIn))); (case h2_u23 => first | assumption | exact IsBuf.mono (by assumption) (by first | k_sub | (intro p9_u23 h9_u23; k_mem))); (case h3_u23 => first | assumption | exact ⟨_, by k_mem⟩ | exact IsRow.mono (by assumption) (by first | k_sub | (intro p9_u23 h9_u23; k_mem))); (case h4_u23 => assumption); (case h5_u23 => assumption); (case h6_u23 => assumption); (case h7_u23 => first | assumption | omega); (case h8_u23 => first | assumption | omega); (case d0_u23 => ktr_room); (case u0_u23 => ktr_units); k_whole); intro r9_u23 n9_u23 h9_u23 t9_u23 P9_u23 F9_u23 N9_u23; obtain ⟨e8_u23, rs8_u23, e9_u23, U8_u23⟩ := P9_u23; subst n9_u23; subst e8_u23; (try k_sweep); (try dsimp only); (try k_fold))
  k_with "call ref" => (k_here; (with_reducible show wpAny _ _ (call (Value.ref 407) _) _ _ _); k_dflt (refine' use_spec (chain_i _ _ _ _ _ _ ?h1_u22 ?h2_u22 ?h3_u22 ?h4_u22 ?h6_u22 ?h5_u22) ?p0_u22 ?B0_u22 ?F0_u22 ?X0_u22 ?N0_u22 ?T0_u22 ?k0_u22 ?d0_u22 ?u0_u22 ?_; (case B0_u22 => k_asm); (case F0_u22 => k_asm); (case X0_u22 => k_asm); (case N0_u22 => k_asm); (case T0_u22 => k_asm); (case k0_u22 => first | exact rfl | assumption); (case p0_u22 => tb_rel); (case h1_u22 => first | assumption | (rename News _ _ _ _ => N7_u22; exact nd_of N7_u22 (by tb_rel) (by k_ownIn))); (case h2_u22 => first | assumption | exact ⟨_, by k_mem⟩ | exact IsRow.mono (by assumption) (by first | k_sub | (intro p9_u22 h9_u22; k_mem))); (case h3_u22 => assumption); (case h4_u22 => assumption); (case h6_u22 => first | assumption | omega); (case h5_u22 => first | assumption | omega); (case d0_u22 => ktr_room); (case u0_u22 => ktr_units); k_whole); intro r9_u22 n9_u22 h9_u22 t9_u22 P9_u22 F9_u22 N9_u22; obtain ⟨ln8_u22, vs8_u22, ep8_u22, e8_u22, e9_u22, nd8_u22, lz8_u22, is8_u22⟩ := P9_u22; subst n9_u22; subst e8_u22; (try k_sweep); (try dsimp only); (try k_fold))
  k_with "exec For Name Call cons nil" => (k_here; (rename Fr _ _ _ _ => lF'); (with_unfolding_all refine' For_invVF lF' ?k15 ?k25 ?_; (case k15 => exact rfl); (case k25 => exact rfl); k_whole))
  k_with "exec For Name Attribute cons nil" => (k_here; (rename Fr _ _ _ _ => lF'); (with_unfolding_all refine' For_invVF lF' ?k15 ?k25 ?_; (case k15 => exact rfl); (case k25 => exact rfl); k_whole))
  k_with "pyIter ref" => (
    (rename Fr _ _ _ _ => lF'); (rename News _ _ _ _ => lN'); (rename IsRange _ _ _ _ _ _ _ _ => rgX);
    (with_unfolding_all refine' for_rows_range2 (z := Str.ofString "place") (fun _ rs1 => PSub rs rs1) nd (by rfl) rgX (small_one (by l_bnd) (by l_bnd) (by l_bnd) (by l_bnd)) (rangeSize_nat _ _) lF' lN' ?subF PSub.refl' (fun _ _ h => h.sx) ?turnF ?doneF);
    (case subF => exact fun p hp => hp);
    (case' turnF => (rintro i8 u8 rs8 pv8 hh8 tk8 I8 oI8 hi8 hU8 nd8 F8 N8; (have m58 := same_row m5 hU8.sx); (have hG8 := hU8.gl hG); (have ln8 := hU8.len); (have hz8 : rs8.length < 100 := (by omega)); clear lF' lN' rgX));
    (case' doneF => (rintro rs8 u8 pv8 hh8 tk8 hU8 nd8 F8 N8; (have m58 := same_row m5 hU8.sx); (have hG8 := hU8.gl hG); (have ln8 := hU8.len); (have hz8 : rs8.length < 100 := (by omega)); clear lF' lN' rgX)))
  k_with "pyIter ref" => (
    (rename Fr _ _ _ _ => lF'); (rename News _ _ _ ((_, revObj _ _) :: _) => lN'); (rename ND ((_, _) :: _) => nd7); (rename AllLt _ ((_, _) :: _) => al7); (rename ∀ x ∈ _, ∃ k t, x = Value.int k t ∧ _ => is7);
    (with_unfolding_all refine' for_rows_rev (led := (_, _) :: (I8, oI8) :: rest) (fun _ rs1 => PSub rs rs1) (ND.perm List.perm_middle.symm nd7) (by rfl) (.head _) lF' (nperm (List.Perm.cons _ List.perm_middle.symm) lN') (fun p hp => Nat.ne_of_lt (ktn_ltOf al7 p (List.perm_middle.mem_iff.mp hp))) hU8 (fun _ _ h => hU8.sx.symm'.trans h.sx) ?turnG ?doneG);
    (case' turnG => (rintro i9 v9 rs9 hh9 tk9 I9 oI9 hi9 hU9 nd9 F9 N9; obtain ⟨k9, t9, e9, kl9, kh9⟩ := is7 _ (List.mem_of_getElem? hi9); subst e9; (have m59 := same_row m5 hU9.sx); (have hG9 := hU9.gl hG); (have ln9 := hU9.len); (have hz9 : rs9.length < 100 := (by omega)); (have in9 := hU9.inr hin); clear lF' lN' is7 al7 nd7));
    (case' doneG => (rintro rs9 u9 hh9 tk9 hU9 nd9 F9 N9; clear lF' lN' is7 al7 nd7)))
  k_with "pyIter ref" => (
    (rename Fr _ _ _ _ => lF'); (rename News _ _ _ _ => lN');
    (with_unfolding_all refine' for_rows (led := rest) (fun i rs1 => Zer rs8 i rs1) nd8 (by rfl) (vs := rowOf rs) m5 lF' lN' ?subG ⟨SameX.rfl', hG8, fun _ _ h => absurd h (Nat.not_lt_zero _)⟩ (fun _ _ h => h.sx) ?turnH ?doneH);
    (case subG => exact fun p hp => hp);
    (case' turnH => (rintro i9 v9 rs9 hh9 tk9 I9 oI9 hi9 hU9 nd9 F9 N9; obtain ⟨r9, hr9, e9⟩ := row_elem hi9 seg_all (hU8.sx.trans hU9.sx); subst e9; (have mx9 := rows_x (P := w.params) (List.mem_of_getElem? hr9)); (have md9 := rows_d (P := w.params) (List.mem_of_getElem? hr9)); clear lF' lN'));
    (case' doneH => (rintro rs9 u9 hh9 tk9 hU9 nd9 F9 N9; clear lF' lN')))
  k_with "setAttr ref" => (k_here; (with_reducible show wpAny _ _ (setAttr (Value.ref _) (Str.ofString "parent") (Value.int _ _)) _ _ _); k_dflt (refine' set_parent ?F5 ?X5 ?N5 ?p5 nd9 hr9 rfl ?k15 ?k25 ?k35 ?k45 ?_; (case F5 => k_asm); (case X5 => k_asm); (case N5 => k_asm); (case p5 => tb_rel); (case k15 => k_is); (case k25 => k_is); (case k35 => k_is); (case k45 => k_is); k_whole); intro h7 rs7 e7 sx7 ln7 gl7 nd7 hr7 mx7 md7 F7 N7)
  refine wpAny_call ?_
  k_dflt ktr_enter
  k_steps
  · exact hret _ _ _ _ ⟨rfl, rs9, rfl, hU8.sx.trans hU9.sx, hU9.gl, fun j r hj hr => hU9.zero j r (by rw [rowOf_len]; exact hj) hr⟩ (by k_asm) (by k_asm)
  · exact ForW.rows nd7 (by k_asm) (by k_asm) (fun _ h => h) (hU9.next hr9 e7)
  · exact ForW.rows2 ((hU8.sx.symm'.trans hU9.sx).nd nd8) (fr_swap (by decide +kernel) (by k_asm)) (by k_asm) (sub_mid (b := [_])) hU9
  · rename PSub rs9 _ => hU10
    exact ForW.rows (hU10.sx.nd nd9) (by k_asm) (by k_asm) (fun _ h => h) (hU9.trans hU10)
end
/-! whether the links end -/
inductive Ends (ps : Par) : Nat → Prop
  | stop {i : Nat} : nxt ps i = none → Ends ps i
  | step {i g : Nat} : nxt ps i = some g → Ends ps g → Ends ps i
inductive Plus (ps : Par) : Nat → Nat → Prop
  | one {i g : Nat} : nxt ps i = some g → Plus ps i g
  | cons {i g j : Nat} : nxt ps i = some g → Plus ps g j → Plus ps i j
theorem Plus.snoc {ps : Par} {i j k : Nat} (h : Plus ps i j) (e : nxt ps j = some k) : Plus ps i k := by
  induction h with
  | one a => exact .cons a (.one e)
  | cons a _ ih => exact .cons a (ih e)
theorem Ends.noPlus {ps : Par} {i : Nat} (h : Ends ps i) : ¬ Plus ps i i := by
  induction h with
  | stop a =>
    intro p
    cases p with
    | one b => rw [a] at b; cases b
    | cons b _ => rw [a] at b; cases b
  | step a _ ih =>
    intro p
    cases p with
    | one b => rw [a] at b; cases b; exact ih (.one a)
    | cons b c => rw [a] at b; cases b; exact ih (c.snoc a)
theorem Ends.iff {ps : Par} {i g : Nat} (h : nxt ps i = some g) : Ends ps i ↔ Ends ps g :=
  ⟨fun e => by
    cases e with
    | stop a => rw [a] at h; cases h
    | step a b => rw [a] at h; cases h; exact b, .step h⟩
/-- a list of parents, in the program -/
structure PVs (vs : List Value) (ps : Par) : Prop where
  len : vs.length = ps.length
  no : ∀ i, i < ps.length → nxt ps i = none → vs[i]? = some .none
  yes : ∀ i g, i < ps.length → nxt ps i = some g → ∃ t, vs[i]? = some (.int (g : Int) t)
section
variable {prog : Program} {w : World} {A : Around} {E : Value → Shared → Prop} {s : Shared} {h₀ : Heap} {L l : Addr} {cur : Led} {vs : List Value} {ps : Par} {ep : Nat} {k : Int} {u : Tok}
theorem par_none {value slice : PySem.Expr} {Q : Value → Shared → Prop} (N : News h₀ L s.heap cur) (hm : (l, listOf vs.toArray ep) ∈ cur) (hP : PVs vs ps) (hz : ps.length < 100) (h0 : 0 ≤ k) (hk : k < (ps.length : Int)) (e : nxt ps k.toNat = none) (h : Q .none s)
    (hs : subscripted slice false (.ref l) (.int k u) = operate [.ref l, .int k u] (getItem (.ref l) (.int k u)) := by with_unfolding_all rfl) (hg : ∀ r, letTemporaryGo value (.ref l) r = pure () := by intro _; with_unfolding_all rfl) :
    wpAny (model prog w) A (subscriptTail value slice (.ref l) (.int k u)) Q E s := item_led N hm h0 (by omega) (hP.no _ (by omega) e) h hs hg
theorem par_some {value slice : PySem.Expr} {g : Nat} {Q : Value → Shared → Prop} (N : News h₀ L s.heap cur) (hm : (l, listOf vs.toArray ep) ∈ cur) (hP : PVs vs ps) (hz : ps.length < 100) (h0 : 0 ≤ k) (hk : k < (ps.length : Int)) (e : nxt ps k.toNat = some g) (h : ∀ t, Q (.int (g : Int) t) s)
    (hs : subscripted slice false (.ref l) (.int k u) = operate [.ref l, .int k u] (getItem (.ref l) (.int k u)) := by with_unfolding_all rfl) (hg : ∀ r, letTemporaryGo value (.ref l) r = pure () := by intro _; with_unfolding_all rfl) :
    wpAny (model prog w) A (subscriptTail value slice (.ref l) (.int k u)) Q E s := by
  obtain ⟨t, ht⟩ := hP.yes _ _ (by omega) e
  exact item_led N hm h0 (by omega) ht (h t) hs hg
theorem par_item {value slice : PySem.Expr} {Q : Value → Shared → Prop} (N : News h₀ L s.heap cur) (hm : (l, listOf vs.toArray ep) ∈ cur) (hP : PVs vs ps) (hz : ps.length < 100) (h0 : 0 ≤ k) (hk : k < (ps.length : Int)) (h1 : nxt ps k.toNat = none → Q .none s) (h2 : ∀ g t, nxt ps k.toNat = some g → Q (.int (g : Int) t) s)
    (hs : subscripted slice false (.ref l) (.int k u) = operate [.ref l, .int k u] (getItem (.ref l) (.int k u)) := by with_unfolding_all rfl) (hg : ∀ r, letTemporaryGo value (.ref l) r = pure () := by intro _; with_unfolding_all rfl) :
    wpAny (model prog w) A (subscriptTail value slice (.ref l) (.int k u)) Q E s := by
  cases e : nxt ps k.toNat with
  | none => exact par_none N hm hP hz h0 hk e (h1 e) hs hg
  | some g => exact par_some N hm hP hz h0 hk e (fun t => h2 g t e) hs hg
theorem in_led {ns : List Int} {Q : Value → Shared → Prop} (N : News h₀ L s.heap cur) (hm : (l, listOf vs.toArray ep) ∈ cur) (hi : IntsAre vs ns) (h : Q (.bool (ns.any (· == k))) s) : wpAny (model prog w) A (compareOp .In (.int k u) (.ref l)) Q E s :=
  in_list_ints (News.isList N hm) hi h
end
theorem Fr.cg {h₀ h : Heap} {L : Addr} {m m' : Str → Option Value} (F : Fr h₀ L h m) (e : ∀ z, m z = m' z) : Fr h₀ L h m' := by rw [← funext e]; exact F
structure EN where
  here : Nat
  ht : Tok
  vs : List Value
  ns : List Nat
  ep : Nat
structure ENok (ps : Par) (a : Nat) (c : EN) : Prop where
  here : c.here < ps.length
  ivs : IntsAre c.vs (c.ns.map Int.ofNat)
  nod : c.ns.Nodup
  low : ∀ k ∈ c.ns, k < ps.length
  plus : ∀ k ∈ c.ns, Plus ps k c.here
  ends : Ends ps a ↔ Ends ps c.here
theorem any_in {ns : List Nat} {k : Nat} : (ns.map Int.ofNat).any (· == (k : Int)) = true ↔ k ∈ ns := by
  rw [List.any_eq_true]
  constructor
  · rintro ⟨x, hx, e⟩
    obtain ⟨y, hy, rfl⟩ := List.mem_map.mp hx
    have e' : ((y : Nat) : Int) = k := by simpa using e
    rwa [← Int.ofNat.inj e']
  · exact fun h => ⟨k, List.mem_map.mpr ⟨k, h, rfl⟩, by simp⟩
theorem ENok.no {ps : Par} {a : Nat} {c : EN} (h : ENok ps a c) (hin : (c.ns.map Int.ofNat).any (· == (c.here : Int)) = true) : ¬ Ends ps a := fun e =>
  Ends.noPlus (h.ends.mp e) (h.plus _ (any_in.mp hin))
theorem ENok.yes {ps : Par} {a : Nat} {c : EN} (h : ENok ps a c) (e : nxt ps c.here = none) : Ends ps a := h.ends.mpr (.stop e)
theorem ENok.next {ps : Par} {a g : Nat} {c : EN} {t t' : Tok} {ep : Nat} (hO : OkP ps) (h : ENok ps a c) (e : nxt ps c.here = some g) (hin : ¬ (c.ns.map Int.ofNat).any (· == (c.here : Int)) = true) :
    ENok ps a ⟨g, t, c.vs ++ [.int (c.here : Int) t'], c.ns ++ [c.here], ep⟩ := by
  have hn : c.here ∉ c.ns := fun hm => hin (any_in.mpr hm)
  refine ⟨(hO _ _ e).1, ?_, ?_, ?_, ?_, h.ends.trans (Ends.iff e)⟩
  · show IntsAre _ ((c.ns ++ [c.here]).map Int.ofNat)
    rw [List.map_append]
    exact IntsAre.snoc' h.ivs
  · rw [List.nodup_append]
    refine ⟨h.nod, by simp, fun x hx y hy exy => ?_⟩
    rw [List.mem_singleton.mp hy] at exy
    exact hn (exy ▸ hx)
  · intro k hk
    rcases List.mem_append.mp hk with hk | hk
    · exact h.low k hk
    · rw [List.mem_singleton.mp hk]; exact h.here
  · intro k hk
    rcases List.mem_append.mp hk with hk | hk
    · exact (h.plus k hk).snoc e
    · rw [List.mem_singleton.mp hk]; exact .one e
theorem ENok.capN {ps : Par} {a : Nat} {c : EN} (h : ENok ps a c) (hin : (c.ns.map Int.ofNat).any (· == (c.here : Int)) = false) : c.ns.length + 1 ≤ ps.length := by
  have := nodup_lt ps.length (c.here :: c.ns) (List.nodup_cons.mpr ⟨fun hm => absurd ((any_in.mpr hm).symm.trans hin) (by decide), h.nod⟩) (fun k hk => by
    rcases List.mem_cons.mp hk with rfl | hk
    · exact h.here
    · exact h.low k hk)
  simpa using this
theorem ENok.cap {ps : Par} {a : Nat} {c : EN} (h : ENok ps a c) : c.ns.length ≤ ps.length := nodup_lt _ c.ns h.nod h.low
section
variable {prog : Program} {w : World} {A : Around} {E : Value → Shared → Prop} {s : Shared} {env : Env} {h₀ : Heap} {body : List Stmt} {Q : Flow → Shared → Prop}
/-- a while that turns one name of the frame's and the ledger -/
theorem while_own {σ : Type} {x : Str} {L : Addr} {test : PySem.Expr} {pos : Pos} {m₀ : Str → Option Value} (V : σ → Value) (Ld : σ → Led) (P : σ → Prop) (μ : σ → Nat) {c₀ : σ}
    (F : Fr h₀ L s.heap m₀) (hx : m₀ x = some (V c₀)) (N : News h₀ L s.heap (Ld c₀)) (hP : P c₀)
    (turn : ∀ c h tk, P c → Fr h₀ L h (fun z => if z = x then some (V c) else m₀ z) → News h₀ L h (Ld c) →
      wpAny (model prog w) A (isTrue test env (eval test env)) (fun b s₂ =>
        if b = true then wpAny (model prog w) A (execs body env) (WhW h₀ L s m₀ (fun m c z => if z = x then some (V c) else m z) Ld P μ Q (μ c)) E s₂ else Q .next s₂) E { s with heap := h, toks := tk })
    (hE : PassesOwn (model prog w) A env E := by passes_own) :
    wpAny (model prog w) A (exec (.While test body [] pos) env) Q E s :=
  while_st (fun m c z => if z = x then some (V c) else m z) Ld P μ (c₀ := c₀) (Fr.cg F fun z => by
    by_cases h : z = x
    · subst h; rw [if_pos rfl]; exact hx
    · rw [if_neg h]) N hP turn hE
end
local macro_rules | `(tactic| walk_at "subscriptTail") => `(tactic| (k_here; (with_reducible show wpAny _ _ (subscriptTail _ _ (Value.ref _) (Value.int _ _)) _ _ _); k_dflt (first | (refine' par_none ?N1 ?m1 ?P1 ?z1 ?a1 ?b1 ?e1 ?_; (case N1 => k_asm); (case m1 => k_mem); (case P1 | z1 => assumption); (case a1 | b1 => walk_at "z5"); (case e1 => first | assumption | (simp only [Int.toNat_natCast]; assumption)); k_whole) | (refine' par_some ?N2 ?m2 ?P2 ?z2 ?a2 ?b2 ?e2 ?_; (case N2 => k_asm); (case m2 => k_mem); (case P2 | z2 => assumption); (case a2 | b2 => walk_at "z5"); (case e2 => first | assumption | (simp only [Int.toNat_natCast]; assumption)); k_whole; intro t8) | (refine' par_item ?N3 ?m3 ?P3 ?z3 ?a3 ?b3 ?h91 ?h92; (case N3 => k_asm); (case m3 => k_mem); (case P3 | z3 => assumption); (case a3 | b3 => walk_at "z5"); (case' h91 => (intro e8; k_whole)); (case' h92 => (intro g8 t8 e8; k_whole))))))
section
local macro_rules | `(tactic| walk_at "compareOp In int ref") => `(tactic| (k_here; k_dflt (refine' in_led ?N ?m ?i ?_; (case N => k_asm); (case m => k_mem); (case i => first | assumption | exact ENok.ivs (by assumption)); k_whole)))
local macro_rules | `(tactic| walk_at "call builtin:list.append") => `(tactic| (k_here; k_dflt (refine' append_K ?F ?N ?U ?_ ?z; (case F | N => k_asm); (case U => exact Upd.nd0 (by assumption)); (case z => rw [List.size_toArray, sizeLine_eq]; omega); k_whole); intro h7 F7 N7))
set_option maxHeartbeats 2000000 in
theorem ends_ok (w : World) (led : Led) (ps : Par) (l : Addr) (vs : List Value) (ep : Nat) (a : Nat) (t : Tok) (ndl : ND led) (hm : (l, listOf vs.toArray ep) ∈ led) (hP : PVs vs ps) (hz : ps.length < 100) (hO : OkP ps) (ha : a < ps.length) :
    Spec w 549 [.ref l, .int (a : Int) t] led 1 8 (fun v n => n = led ∧ ∃ b : Bool, v = .bool b ∧ (b = true ↔ Ends ps a)) := by
  unfold Spec
  intro mean mg mb dp un gdd cn cs aa ccd cl outer A₀ base h₀ L m s Q E B F X N T hk' hR hU hret
  k_with_none
  k_with "exec While Compare cons nil" => (
    (rename News _ _ _ ((_, _) :: _) => N8); (rename Fr _ _ _ _ => F8); (rename AllLt _ led => al8);
    (refine' while_own (x := Str.ofString "at") (fun c : EN => Value.int (c.here : Int) c.ht) (fun c => (_, listOf c.vs.toArray c.ep) :: led) (ENok ps a) (fun c => ps.length - c.ns.length) (c₀ := ⟨a, t, [], [], 0⟩) F8 ?hx5 N8 ?hP5 ?turn5);
    (case hx5 => rfl);
    (case hP5 => exact ⟨ha, .nil, .nil, fun _ h => (nomatch h), fun _ h => (nomatch h), Iff.rfl⟩);
    k_whole;
    rintro c9 hh9 tk9 hc9 F9 N9; (have cap9 := hc9.cap); (have low9 := hc9.here); (have len9 := hc9.ivs.length); rw [List.length_map] at len9; (have nd9 := ND.cons (o := listOf c9.vs.toArray c9.ep) al8 ndl); dsimp only at F9; clear N8 F8)
  refine wpAny_call ?_
  k_dflt ktr_enter
  k_steps
  · exact hret _ led _ _ ⟨rfl, false, rfl, iff_of_false (by decide) (hc9.no (by assumption))⟩ (by k_asm) (News.sub (by k_asm) (fun _ h => List.mem_cons_of_mem _ h))
  · rename nxt ps _ = some _ => hg
    rename List.any _ _ = false => hin
    rw [Int.toNat_natCast] at hg
    exact WhW.go (EN.mk _ _ _ (c9.ns ++ [c9.here]) _) (fr_put (by k_asm)) (news_push0 (by k_asm)) (by have := hc9.capN hin; dsimp only; rw [List.length_append]; simp only [List.length_cons, List.length_nil]; omega) (hc9.next hO hg (by rw [hin]; decide))
  · rename nxt ps _ = none => hg
    rw [Int.toNat_natCast] at hg
    exact hret _ led _ _ ⟨rfl, true, rfl, iff_of_true rfl (hc9.yes hg)⟩ (by k_asm) (News.sub (by k_asm) (fun _ h => List.mem_cons_of_mem _ h))
end
theorem ends_i (w : World) (led : Led) (ps : Par) (l : Addr) (vs : List Value) (ep : Nat) (k : Int) (t : Tok) (ndl : ND led) (hm : (l, listOf vs.toArray ep) ∈ led) (hP : PVs vs ps) (hz : ps.length < 100) (hO : OkP ps) (h0 : 0 ≤ k) (h1 : k < (ps.length : Int)) :
    Spec w 549 [.ref l, .int k t] led 1 8 (fun v n => n = led ∧ ∃ b : Bool, v = .bool b ∧ (b = true ↔ Ends ps k.toNat)) := by
  obtain ⟨n, rfl⟩ := Int.eq_ofNat_of_zero_le h0
  exact ends_ok w led ps l vs ep n t ndl hm hP hz hO (by omega)
/-- the pen's state -/
structure PN where
  g : Int
  st : Int
  pl : Int
  tg : Tok
  ts : Tok
  tp : Tok
  n : Nat
def penObj (cells : Addr) (c : PN) : Obj := listOf #[.ref cells, .int c.g c.tg, .int c.st c.ts, .int c.pl c.tp] c.n
structure PNok (c : PN) (k : Int) : Prop where
  g0 : 0 ≤ c.g
  g1 : c.g < 10 ^ 240
  s0 : 0 ≤ c.st
  s1 : c.st < 2147483647
  p0 : 0 ≤ c.pl
  p1 : c.pl ≤ k
theorem PNok.mono {c : PN} {k k' : Int} (h : PNok c k) (e : k ≤ k') : PNok c k' := ⟨h.g0, h.g1, h.s0, h.s1, h.p0, Int.le_trans h.p1 e⟩
theorem draw_i (w : World) (pen cells : Addr) (vs : List Value) (ns : List Int) (n' : Nat) (c : PN) (k lim : Int) (tl : Tok) (rest : Led) (nd : ND ((pen, penObj cells c) :: rest)) (hc : (cells, listOf vs.toArray n') ∈ rest) (hi : IntsAre vs ns) (hn : vs.length < 100) (hp : PNok c k) (hk : k < 100) (h1 : 1 ≤ lim) (h7 : lim ≤ 7) :
    Spec w 542 [.ref pen, .int lim tl] ((pen, penObj cells c) :: rest) 1 8 (fun r news' => ∃ d t c', r = .int d t ∧ 0 ≤ d ∧ d < lim ∧ news' = (pen, penObj cells c') :: rest ∧ PNok c' (k + 1) ∧ ND ((pen, penObj cells c') :: rest)) :=
  (draw_ok w pen cells vs ns c.n n' c.g c.st c.pl lim c.tg c.ts c.tp tl rest nd.head hc hi hn hp.g0 hp.g1 hp.s0 hp.s1 hp.p0 (by have := hp.p1; omega) h1 h7).mono (fun _ h => h) fun r news' ⟨d, t, g', tg', st', ts', tp', n'', e, d0, d1, g0, g1, s0, s1, e'⟩ =>
    ⟨d, t, ⟨g', st', c.pl + 1, tg', ts', tp', n''⟩, e, d0, d1, e', ⟨g0, g1, s0, s1, by have := hp.p0; show 0 ≤ c.pl + 1; omega, by have := hp.p1; show c.pl + 1 ≤ k + 1; omega⟩, nd.put⟩
/-! the parents as a list of the program's -/
theorem nxt_set {ps : Par} {i j : Nat} {o : Option Nat} (h : i < ps.length) : nxt (ps.set i o) j = if i = j then o else nxt ps j := by
  unfold nxt
  rw [List.getElem?_set]
  by_cases e : i = j
  · rw [if_pos e, if_pos e, if_pos h]
  · rw [if_neg e, if_neg e]
theorem PVs.set {vs : List Value} {ps : Par} {i : Nat} {v : Value} {o : Option Nat} (h : PVs vs ps) (hi : i < ps.length) (h0 : o = none → v = .none) (h1 : ∀ g, o = some g → ∃ t, v = .int (g : Int) t) : PVs (vs.set i v) (ps.set i o) := by
  have hl := h.len
  refine ⟨by rw [List.length_set, List.length_set]; exact hl, fun j hj e => ?_, fun j g hj e => ?_⟩
  · rw [nxt_set hi] at e
    rw [List.length_set] at hj
    rw [List.getElem?_set]
    by_cases q : i = j
    · rw [if_pos q] at e ⊢
      rw [if_pos (by omega), h0 e]
    · rw [if_neg q] at e ⊢
      exact h.no j hj e
  · rw [nxt_set hi] at e
    rw [List.length_set] at hj
    rw [List.getElem?_set]
    by_cases q : i = j
    · rw [if_pos q] at e ⊢
      rw [if_pos (by omega)]
      obtain ⟨t, e'⟩ := h1 g e
      exact ⟨t, by rw [e']⟩
    · rw [if_neg q] at e ⊢
      exact h.yes j g hj e
theorem PVs.rep (n : Nat) : PVs (List.replicate n Value.none) (List.replicate n none) := by
  refine ⟨by rw [List.length_replicate, List.length_replicate], fun i hi _ => ?_, fun i g hi e => ?_⟩
  · rw [List.length_replicate] at hi
    rw [List.getElem?_replicate, if_pos hi]
  · unfold nxt at e
    rw [List.getElem?_replicate] at e
    split at e
    · rename_i q; split at q
      · cases q; cases e
      · cases q
    · cases e
theorem nxt_rep (n i : Nat) : nxt (List.replicate n none) i = none := by
  unfold nxt
  rw [List.getElem?_replicate]
  split
  · rename_i q; split at q
    · cases q; rfl
    · cases q
  · rfl
theorem nxt_out {ps : Par} {i : Nat} (h : ps.length ≤ i) : nxt ps i = none := by
  unfold nxt
  rw [List.getElem?_eq_none h]
/-- every way ends -/
def AllEnd (ps : Par) : Prop := ∀ j, Ends ps j
theorem AllEnd.rep (n : Nat) : AllEnd (List.replicate n none) := fun j => .stop (nxt_rep n j)
theorem AllEnd.put {ps : Par} {i : Nat} {o : Option Nat} (h : AllEnd ps) (hi : i < ps.length) (e : Ends (ps.set i o) i) : AllEnd (ps.set i o) := fun j => by
  have key : ∀ j, Ends ps j → Ends (ps.set i o) j := by
    intro j hj
    induction hj with
    | @stop k a =>
      by_cases q : i = k
      · rw [← q]; exact e
      · exact .stop (by rw [nxt_set hi, if_neg q]; exact a)
    | @step k g a _ ih =>
      by_cases q : i = k
      · rw [← q]; exact e
      · exact .step (by rw [nxt_set hi, if_neg q]; exact a) ih
  exact key j (h j)
theorem AllEnd.none {ps : Par} {i : Nat} (h : AllEnd ps) (hi : i < ps.length) : AllEnd (ps.set i none) := h.put hi (.stop (by rw [nxt_set hi, if_pos rfl]))
theorem par_back {ps : Par} {i : Nat} {o : Option Nat} (h : nxt ps i = none) (hi : i < ps.length) : (ps.set i o).set i none = ps := by
  rw [List.set_set]
  apply List.ext_getElem?
  intro j
  rw [List.getElem?_set]
  by_cases q : i = j
  · rw [if_pos q, if_pos hi]
    unfold nxt at h
    rw [← q]
    cases hh : ps[i]? with
    | none => rw [List.getElem?_eq_none_iff] at hh; omega
    | some x => rw [hh] at h; dsimp only at h; rw [h]
  · rw [if_neg q]
theorem OkP.set {ps : Par} {i : Nat} {o : Option Nat} (h : OkP ps) (hi : i < ps.length) (ho : ∀ g, o = some g → g < ps.length ∧ g ≠ i) : OkP (ps.set i o) := fun j g e => by
  rw [nxt_set hi] at e
  rw [List.length_set]
  by_cases q : i = j
  · rw [if_pos q] at e; rw [← q]; exact ho g e
  · rw [if_neg q] at e; exact h j g e
theorem OkP.rep (n : Nat) : OkP (List.replicate n none) := fun j g e => by rw [nxt_rep] at e; cases e
/-- the goal of a bond is another one -/
theorem goal_ok {p d n : Int} (hp : 0 ≤ p) (hpn : p < n) (hd : 0 ≤ d) (hdn : d < n - 1) : 0 ≤ (p + 1 + d).fmod n ∧ (p + 1 + d).fmod n < n ∧ (p + 1 + d).fmod n ≠ p := by
  have h := fm_lo (p + 1 + d) (n := n) (by omega)
  refine ⟨h.1, h.2, fun e => ?_⟩
  rw [Int.fmod_eq_emod_of_nonneg _ (by omega)] at e
  have e2 := Int.emod_add_mul_ediv (p + 1 + d) n
  rw [e] at e2
  have hq : 0 ≤ (p + 1 + d) / n := Int.ediv_nonneg (by omega) (by omega)
  have h3 : n * ((p + 1 + d) / n) = 1 + d := by omega
  by_cases hz : (p + 1 + d) / n = 0
  · rw [hz, Int.mul_zero] at h3; omega
  · have : n * 1 ≤ n * ((p + 1 + d) / n) := Int.mul_le_mul_of_nonneg_left (by omega) (by omega)
    omega
section
variable {prog : Program} {w : World} {A : Around} {E : Value → Shared → Prop} {s : Shared} {h₀ : Heap} {L l : Addr} {m : Str → Option Value} {cur cur' : Led} {vs : List Value} {ps : Par} {ep : Nat} {k : Int} {u : Tok} {v : Value}
theorem set_led {Q : Unit → Shared → Prop} (F : Fr h₀ L s.heap m) (N : News h₀ L s.heap cur) (U : Upd l (listOf vs.toArray ep) (listOf (vs.set k.toNat v).toArray ep) cur cur') (h0 : 0 ≤ k) (h1 : k < (vs.length : Int)) (hz : vs.length < 100)
    (h : ∀ h', Fr h₀ L h' m → News h₀ L h' cur' → Q () { s with heap := h' }) : wpAny (model prog w) A (setItem (.ref l) (.int k u) v) Q E s := by
  obtain ⟨pre, post, rfl, rfl, a, b⟩ := U.split
  have z := N (l, listOf vs.toArray ep) (List.mem_append.mpr (.inr (.head _)))
  refine ki_setAt z.1 h0 (by omega) (by rw [List.size_toArray]; omega) (h _ (F.change (Heap.SameBut.update ..) z.2.1 z.2.2) (ki_turn _ N a b ?_ ?_))
  · show vs.toArray.setIfInBounds k.toNat v = (vs.set k.toNat v).toArray
    apply Array.toList_inj.mp
    simp
  · simp
/-- a store into the parents, they at the ledger's head behind one -/
theorem par_put {Q : Unit → Shared → Prop} {led : Led} {o : Option Nat} (F : Fr h₀ L s.heap m) (N : News h₀ L s.heap cur) (hp : cur.Perm ((l, listOf vs.toArray ep) :: led)) (nd : ND ((l, listOf vs.toArray ep) :: led)) (hP : PVs vs ps) (hz : ps.length < 100) (h0 : 0 ≤ k) (h1 : k < (ps.length : Int)) (e0 : o = none → v = .none) (e1 : ∀ g, o = some g → ∃ t, v = .int (g : Int) t)
    (h : ∀ h' vs' ps', ps' = ps.set k.toNat o → PVs vs' ps' → ps'.length = ps.length → nxt ps' k.toNat = o → ND ((l, listOf vs'.toArray ep) :: led) → Fr h₀ L h' m → News h₀ L h' ((l, listOf vs'.toArray ep) :: led) → Q () { s with heap := h' }) : wpAny (model prog w) A (setItem (.ref l) (.int k u) v) Q E s :=
  set_led F (nperm hp N) (Upd.nd0 nd) h0 (by rw [hP.len]; exact h1) (by rw [hP.len]; exact hz) fun h' F' N' =>
    h h' _ _ rfl (hP.set (by omega) e0 e1) (List.length_set ..) (by rw [nxt_set (by omega), if_pos rfl]) nd.put F' N'
theorem rep_foldl {α : Type} (v : α) : ∀ (n : Nat) (a : List α), List.foldl (fun x1 x2 => x1 ++ x2) a.toArray (List.replicate n #[v]) = (a ++ List.replicate n v).toArray
  | 0, a => by simp
  | n + 1, a => by
    rw [List.replicate_succ, List.foldl_cons, show a.toArray ++ #[v] = (a ++ [v]).toArray by simp, rep_foldl v n]
    simp [List.replicate_succ]
theorem mul_rep {Q : Value → Shared → Prop} {x : Int} (F : Fr h₀ L s.heap m) (N : News h₀ L s.heap cur) (hm : (l, listOf #[v] ep) ∈ cur) (h0 : 0 ≤ x) (h1 : x < 100)
    (h : ∀ D h', Fr h₀ L h' m → News h₀ L h' ((D, listOf (List.replicate x.toNat v).toArray 0) :: cur) → (∀ p ∈ cur, p.1 < D) → Q (.ref D) { s with heap := h' }) : wpAny (model prog w) A (binaryOp .Mult (.ref l) (.int x u)) Q E s := by
  refine mul_list F N (N _ hm).1 (by omega) (by omega) (by simp; omega) fun h' F' N' => ?_
  have e : (List.foldl (fun x1 x2 => x1 ++ x2) #[] (List.replicate (if (#[v] : Array Value).isEmpty = true then 0 else x.toNat) #[v])) = (List.replicate x.toNat v).toArray := by
    have := rep_foldl v x.toNat []
    simpa using this
  rw [e] at N'
  exact h _ h' F' N' fun p hp => Heap.lt_size (N p hp).1
end
section
variable {prog : Program} {w : World} {A : Around} {E : Value → Shared → Prop} {s : Shared} {h₀ : Heap} {L l : Addr} {m : Str → Option Value} {cur led : Led}
theorem append_p {vs : List Value} {n : Nat} {v : Value} {Q : Value → Shared → Prop} (F : Fr h₀ L s.heap m) (N : News h₀ L s.heap cur) (hp : cur.Perm ((l, listOf vs.toArray n) :: led)) (nd : ND ((l, listOf vs.toArray n) :: led)) (hz : vs.length < 100)
    (h : ∀ h', Fr h₀ L h' m → News h₀ L h' ((l, listOf (vs ++ [v]).toArray (n + 1)) :: led) → ND ((l, listOf (vs ++ [v]).toArray (n + 1)) :: led) → Q .none { s with heap := h' }) : wpAny (model prog w) A (call (.builtin "list.append") [.ref l, v]) Q E s :=
  append_K F (nperm hp N) (Upd.nd0 nd) (fun h' F' N' => h h' F' (news_push0 N') nd.put) (by rw [List.size_toArray, sizeLine_eq]; omega)
end
theorem use_pen {w : World} {sc : Addr} {vs : List Value} {ns : List Int} {mean : ExcName → Option Value} {mg mb : Str → Option Value} {dp un : Nat} {gdd : Option (List Code)} {cn : Str} {cs : Scope} {a : Addr} {ccd : Value} {cl : List (Str × Addr)} {outer : List Env} {A₀ : Around} {base h₀ : Heap} {L : Addr} {m : Str → Option Value} {s : Shared} {news : Led}
    {Q E : Value → Shared → Prop} (hi : IntsAre vs ns) (hlen : ns.length ≤ 63) (hL : h₀.IsList sc vs.toArray)
    (B : Below A₀ base outer h₀) (F : Fr h₀ L s.heap m) (X : Frag.In (KK w.params) h₀) (N : News h₀ L s.heap news) (T : Top VV (looseW VV []) mean mg mb h₀) (hk' : cs.kind = .function) (hR : dp + 1 < recursionLimit) (hU : un + 8 < cLine)
    (hret : ∀ r news' h' tk', PenR news r news' → Fr h₀ L h' m → News h₀ L h' news' → Q r { s with heap := h', toks := tk' }) :
    wpAny (model PySem.Challenge.rw_nz0117_01.row.prog w) (ktrTop dp un gdd cn cs L a ccd cl outer) (call (.ref 535) [.ref sc]) Q E s :=
  pen_ok w sc vs ns hi hlen mean mg mb dp un gdd cn cs a ccd cl outer A₀ base h₀ L m s news Q E hL B F X N T hk' hR hU hret
/-- the pen and what it reads -/
structure PenA (led : Led) (cells : Addr) : Prop where
  ex : ∃ (vs : List Value) (ns : List Int) (n : Nat), (cells, listOf vs.toArray n) ∈ led ∧ IntsAre vs ns ∧ vs.length < 100
theorem PenA.mono {led led' : Led} {cells : Addr} (h : PenA led cells) (s : ∀ p ∈ led, p ∈ led') : PenA led' cells := let ⟨⟨vs, ns, n, m, r⟩⟩ := h; ⟨⟨vs, ns, n, s _ m, r⟩⟩
theorem draw_a (w : World) (pen cells : Addr) (c : PN) (k lim : Int) (tl : Tok) (rest : Led) (nd : ND ((pen, penObj cells c) :: rest)) (hA : PenA rest cells) (hp : PNok c k) (hk : k < 100) (h1 : 1 ≤ lim) (h7 : lim ≤ 7) :
    Spec w 542 [.ref pen, .int lim tl] ((pen, penObj cells c) :: rest) 1 8 (fun r news' => ∃ d t c', r = .int d t ∧ 0 ≤ d ∧ d < lim ∧ news' = (pen, penObj cells c') :: rest ∧ PNok c' (k + 1) ∧ ND ((pen, penObj cells c') :: rest)) := by
  obtain ⟨vs, ns, n, m, hi, hz⟩ := hA
  exact draw_i w pen cells vs ns n c k lim tl rest nd m hi hz hp hk h1 h7
theorem PenR.a {news : Led} {r : Value} {n : Led} (h : PenR news r n) (nd : ND news) : ∃ (pen cells : Addr) (c : PN) (rest : Led), r = .ref pen ∧ n = (pen, penObj cells c) :: rest ∧ PenA rest cells ∧ PNok c 0 ∧ ND ((pen, penObj cells c) :: rest) ∧ ∀ p ∈ news, p ∈ rest := by
  obtain ⟨pen, cells, D, ys, ws, ms, g, st, tg, ts, tp, rfl, rfl, hi, hz, g0, g1, s0, s1, hn⟩ := h
  refine ⟨pen, cells, ⟨g, st, 0, tg, ts, tp, 0⟩, _, rfl, rfl, ⟨⟨ys, ms, _, .head _, hi, hz⟩⟩, ⟨g0, g1, s0, s1, Int.le_refl _, Int.le_refl _⟩, hn nd, fun p hp => ?_⟩
  exact List.mem_cons_of_mem _ (List.mem_cons_of_mem _ hp)
theorem pt2 {α : Type} {p : α} {r r' : List α} (q : α) (h : r.Perm (p :: r')) : (q :: r).Perm (p :: q :: r') := (List.Perm.cons q h).trans (List.Perm.swap p q r')
local macro_rules | `(tactic| tb_start) => `(tactic| first | exact List.Perm.refl _ | (refine' pt2 _ ?pq9; (case pq9 => tb_start)) | (refine' pa ?pq9; (case pq9 => tb_start)))
/-- the state of the loop that makes the infos -/
structure SA where
  rs : List IR
  c : PN
  ep : Nat
def ldA (P : Params) (il pen cells : Addr) (R : Led) (σ : SA) : Led := (il, listOf (rowOf σ.rs).toArray σ.ep) :: (pen, penObj cells σ.c) :: (rowsLed P σ.rs ++ R)
structure OkA (P : Params) (il pen cells : Addr) (R : Led) (i : Nat) (σ : SA) : Prop where
  len : σ.rs.length = i
  gl : GL σ.rs
  par : ∀ r ∈ σ.rs, r.parent = 0
  pk : PNok σ.c (2 + i)
  nd : ND (ldA P il pen cells R σ)
theorem OkA.start {P : Params} {il pen cells : Addr} {R : Led} {c : PN} (hc : PNok c 2) (nd : ND ((il, listOf #[] 0) :: (pen, penObj cells c) :: R)) : OkA P il pen cells R 0 ⟨[], c, 0⟩ :=
  ⟨rfl, fun _ h => (nomatch h), fun _ h => (nomatch h), hc, nd⟩
theorem OkA.next {P : Params} {il pen cells : Addr} {R : Led} {i : Nat} {σ : SA} {r : IR} {c : PN} {ep : Nat} (h : OkA P il pen cells R i σ) (hg : 1 ≤ r.glyph ∧ r.glyph ≤ 5) (hp : r.parent = 0) (hc : PNok c (2 + i + 1)) (nd : ND (ldA P il pen cells R ⟨σ.rs ++ [r], c, ep⟩)) : OkA P il pen cells R (i + 1) ⟨σ.rs ++ [r], c, ep⟩ := by
  refine ⟨by rw [List.length_append, h.len]; rfl, fun q hq => ?_, fun q hq => ?_, hc.mono (by omega), nd⟩
  · rcases List.mem_append.mp hq with hq | hq
    · exact h.gl q hq
    · rw [List.mem_singleton.mp hq]; exact hg
  · rcases List.mem_append.mp hq with hq | hq
    · exact h.par q hq
    · rw [List.mem_singleton.mp hq]; exact hp
theorem rowsLed_one (P : Params) (r : IR) : rowsLed P [r] = [(r.x, instObj 175 r.d), (r.d, dictOf (infoEs P r) 16)] := by rw [rowsLed_cons]; rfl
theorem ND.one {d : Addr} {o : Obj} : ND [(d, o)] := ND.cons (allLt_of (fun _ h => nomatch h)) (by unfold ND; exact List.nodup_nil)
/-! the plain law: setting a mark -/
theorem off_none {ps : Par} {i : Nat} (h : nxt ps i = none) : off ps i = 0 := by unfold off; rw [h]
theorem off_of {ps : Par} {i g : Nat} (h : nxt ps i = some g) : off ps i = (g : Int) - (i : Int) := by unfold off; rw [h]
theorem RelP.put {rs rs' : List IR} {ps : Par} {i g : Nat} {r' : IR} (h : RelP rs ps) (hi : i < ps.length) (hl : rs'.length = rs.length) (hr : rs'[i]? = some r') (hp : r'.parent = (g : Int) - (i : Int)) (hg : g < ps.length) (hgi : g ≠ i) (same : ∀ j r, j ≠ i → rs'[j]? = some r → ∃ r0, rs[j]? = some r0 ∧ r.parent = r0.parent) : RelP rs' (ps.set i (some g)) := by
  refine ⟨by rw [hl, List.length_set]; exact h.len, fun j r e => ?_, h.ok.set hi fun g' e => by cases e; exact ⟨hg, hgi⟩⟩
  by_cases q : j = i
  · subst q
    rw [hr] at e; cases e
    rw [off_of (g := g) (by rw [nxt_set hi, if_pos rfl])]; exact hp
  · obtain ⟨r0, h0, e0⟩ := same j r q e
    rw [e0, h.val j r0 h0]
    unfold off
    rw [nxt_set hi, if_neg (Ne.symm q)]
/-- the walk up from the place of a mark -/
structure UP where
  here : Nat
  ht : Tok
  ns : List Nat
structure UPok (ps ps1 : Par) (a p n : Nat) (c : UP) : Prop where
  here : c.here < n
  ne : c.here ≠ a
  nod : c.ns.Nodup
  low : ∀ k ∈ c.ns, k < n
  off : ∀ k ∈ c.ns, k ≠ a
  plus : ∀ k ∈ c.ns, Plus ps1 k c.here
  brk : brk ps a n p = brk ps a (n - c.ns.length) c.here
  imp : ∀ ps' : Par, (∀ j ∈ c.ns, nxt ps' j = nxt ps1 j) → Ends ps' c.here → Ends ps' p
theorem UPok.start {ps ps1 : Par} {a p n : Nat} {t : Tok} (hp : p < n) (hne : p ≠ a) : UPok ps ps1 a p n ⟨p, t, []⟩ :=
  ⟨hp, hne, .nil, fun _ h => (nomatch h), fun _ h => (nomatch h), fun _ h => (nomatch h), rfl, fun _ _ h => h⟩
theorem UPok.notin {ps ps1 : Par} {a p n : Nat} {c : UP} (h : UPok ps ps1 a p n c) (hA : AllEnd ps1) : c.here ∉ c.ns := fun hm => (hA c.here).noPlus (h.plus _ hm)
theorem UPok.cap {ps ps1 : Par} {a p n : Nat} {c : UP} (h : UPok ps ps1 a p n c) (hA : AllEnd ps1) : c.ns.length + 1 ≤ n := by
  have := nodup_lt n (c.here :: c.ns) (List.nodup_cons.mpr ⟨h.notin hA, h.nod⟩) (fun k hk => by
    rcases List.mem_cons.mp hk with rfl | hk
    · exact h.here
    · exact h.low k hk)
  simpa using this
theorem UPok.next {ps ps1 : Par} {a p n g : Nat} {c : UP} {t : Tok} (h : UPok ps ps1 a p n c) (hA : AllEnd ps1) (hO : OkP ps) (hl : ps.length = n) (ha : a < n) (e1 : ps1 = ps.set a none) (e : nxt ps1 c.here = some g) (hg : g ≠ a) : UPok ps ps1 a p n ⟨g, t, c.ns ++ [c.here]⟩ := by
  have e0 : nxt ps c.here = some g := by rw [e1, nxt_set (by omega), if_neg (Ne.symm h.ne)] at e; exact e
  have hcap := h.cap hA
  refine ⟨by have := (hO _ _ e0).1; show g < n; omega, hg, ?_, ?_, ?_, ?_, ?_, ?_⟩
  · rw [List.nodup_append]
    refine ⟨h.nod, by simp, fun x hx y hy exy => ?_⟩
    rw [List.mem_singleton.mp hy] at exy
    exact h.notin hA (exy ▸ hx)
  · intro k hk
    rcases List.mem_append.mp hk with hk | hk
    · exact h.low k hk
    · rw [List.mem_singleton.mp hk]; exact h.here
  · intro k hk
    rcases List.mem_append.mp hk with hk | hk
    · exact h.off k hk
    · rw [List.mem_singleton.mp hk]; exact h.ne
  · intro k hk
    rcases List.mem_append.mp hk with hk | hk
    · exact (h.plus k hk).snoc e
    · rw [List.mem_singleton.mp hk]; exact .one e
  · rw [h.brk]
    show _ = Mine.brk ps a (n - (c.ns ++ [c.here]).length) g
    rw [List.length_append]
    obtain ⟨k, hk⟩ : ∃ k, n - c.ns.length = k + 1 := ⟨n - c.ns.length - 1, by omega⟩
    rw [hk, show n - (c.ns.length + [c.here].length) = k by simp only [List.length_cons, List.length_nil]; omega]
    conv => lhs; unfold Mine.brk
    rw [e0]
    show (if g = a then some c.here else Mine.brk ps a k g) = _
    rw [if_neg hg]
  · intro ps' hs he
    refine h.imp ps' (fun j hj => hs j (List.mem_append_left _ hj)) (.step ?_ he)
    rw [hs c.here (List.mem_append_right _ (List.mem_singleton.mpr rfl))]
    exact e
theorem UPok.brk_none {ps ps1 : Par} {a p n : Nat} {c : UP} (h : UPok ps ps1 a p n c) (hA : AllEnd ps1) (hl : ps.length = n) (ha : a < n) (e1 : ps1 = ps.set a none) (e : nxt ps1 c.here = none) : Mine.brk ps a n p = none := by
  have e0 : nxt ps c.here = none := by rw [e1, nxt_set (by omega), if_neg (Ne.symm h.ne)] at e; exact e
  have hcap := h.cap hA
  obtain ⟨k, hk⟩ : ∃ k, n - c.ns.length = k + 1 := ⟨n - c.ns.length - 1, by omega⟩
  rw [h.brk, hk]; unfold Mine.brk; rw [e0]
theorem UPok.brk_some {ps ps1 : Par} {a p n : Nat} {c : UP} (h : UPok ps ps1 a p n c) (hA : AllEnd ps1) (hl : ps.length = n) (ha : a < n) (e1 : ps1 = ps.set a none) (e : nxt ps1 c.here = some a) : Mine.brk ps a n p = some c.here := by
  have e0 : nxt ps c.here = some a := by rw [e1, nxt_set (by omega), if_neg (Ne.symm h.ne)] at e; exact e
  have hcap := h.cap hA
  obtain ⟨k, hk⟩ : ∃ k, n - c.ns.length = k + 1 := ⟨n - c.ns.length - 1, by omega⟩
  rw [h.brk, hk]; unfold Mine.brk; rw [e0]
  show (if a = a then some c.here else _) = _
  rw [if_pos rfl]
/-- the state of the main loop -/
structure OkC (rs0 rs : List IR) (ps : Par) : Prop where
  sx : SameX rs0 rs
  gl : GL rs
  rel : RelP rs ps
  all : AllEnd ps
/-- set, and no ring was broken -/
theorem OkC.set0 {rs0 rs rs1 rs3 : List IR} {ps ps1 ps2 : Par} {a p : Nat} {c : UP} (h : OkC rs0 rs ps) (ha : a < rs.length) (hp : p < a) (hB : brkR ps a p rs rs1) (sx : SameX rs rs3) (gl : GL rs3) (hS : SetR a p rs1 rs3)
    (e1 : ps1 = ps.set a none) (hU : UPok ps ps1 a p rs.length c) (e : nxt ps1 c.here = none) (e2 : ps2 = ps1.set a (some p)) : OkC rs0 rs3 ps2 := by
  have hl := h.rel.len
  have hA : AllEnd ps1 := e1 ▸ h.all.none (by omega)
  have hb := hU.brk_none hA hl.symm ha e1 e
  have hr1 : rs1 = rs := by unfold brkR at hB; rw [hb] at hB; exact hB
  subst hr1
  have hps : ps2 = ps.set a (some p) := by rw [e2, e1, List.set_set]
  have h3l := sx.len
  obtain ⟨r3, hr3⟩ : ∃ r3, rs3[a]? = some r3 := ⟨rs3[a]'(by omega), List.getElem?_eq_getElem (by omega)⟩
  refine ⟨h.sx.trans sx, gl, hps ▸ h.rel.put (by omega) h3l hr3 ((hS a r3 hr3).1 rfl).1 (by omega) (by omega) fun j r hj hr => ?_, ?_⟩
  · obtain ⟨r1, h1, e1, _⟩ := (hS j r hr).2 hj
    exact ⟨r1, h1, e1⟩
  · rw [e2]
    have hl1 : ps1.length = ps.length := by rw [e1, List.length_set]
    refine hA.put (by omega) (.step (g := p) (by rw [nxt_set (by omega), if_pos rfl]) (hU.imp _ (fun j hj => ?_) (.stop ?_)))
    · rw [nxt_set (by omega), if_neg (Ne.symm (hU.off j hj))]
    · rw [nxt_set (by omega), if_neg (Ne.symm hU.ne)]; exact e
theorem brk_at {rs rs1 : List IR} {ps : Par} {a p x : Nat} (hB : brkR ps a p rs rs1) (hb : brk ps a rs.length p = some x) : ∃ r r', rs[x]? = some r ∧ rs1 = rs.set x r' ∧ r'.parent = 0 ∧ r'.bond = Str.ofString "" ∧ r'.yo = 0 := by
  unfold brkR at hB; rw [hb] at hB
  obtain ⟨r, t, t', t'', hr, S⟩ := hB
  exact ⟨r, _, hr, S.eq, rfl, rfl, rfl⟩
/-- what stands where the ring was broken -/
theorem brk_here {rs rs1 rs3 : List IR} {ps ps1 : Par} {a p : Nat} {c : UP} {r3 : IR} (hl : rs.length = ps.length) (hA : AllEnd ps1) (ha : a < rs.length) (hB : brkR ps a p rs rs1) (hS : SetR a p rs1 rs3)
    (e1 : ps1 = ps.set a none) (hU : UPok ps ps1 a p rs.length c) (e : nxt ps1 c.here = some a) (hr : rs3[c.here]? = some r3) : r3.bond = Str.ofString "" ∧ r3.yo = 0 ∧ r3.parent = 0 := by
  have hb := hU.brk_some hA hl.symm ha e1 e
  obtain ⟨r, r', h0, es, p0, b0, y0⟩ := brk_at hB hb
  obtain ⟨r1, h1, f1, f2, f3⟩ := (hS _ _ hr).2 hU.ne
  rw [es, List.getElem?_set_self (List.getElem?_eq_some_iff.mp h0).1] at h1
  cases h1
  exact ⟨f2.trans b0, f3.trans y0, f1.trans p0⟩
/-- set, and a ring was broken -/
theorem OkC.set1 {rs0 rs rs1 rs3 : List IR} {ps ps1 psx ps2 : Par} {a p : Nat} {c : UP} (h : OkC rs0 rs ps) (ha : a < rs.length) (hp : p < a) (hB : brkR ps a p rs rs1) (sx : SameX rs rs3) (gl : GL rs3) (hS : SetR a p rs1 rs3)
    (e1 : ps1 = ps.set a none) (hU : UPok ps ps1 a p rs.length c) (e : nxt ps1 c.here = some a) (ex : psx = ps1.set c.here none) (e2 : ps2 = psx.set a (some p)) : OkC rs0 rs3 ps2 := by
  have hl := h.rel.len
  have hA : AllEnd ps1 := e1 ▸ h.all.none (by omega)
  have hl1 : ps1.length = ps.length := by rw [e1, List.length_set]
  have hlx : psx.length = ps.length := by rw [ex, List.length_set]; exact hl1
  have hh := hU.here
  have hAx : AllEnd psx := ex ▸ hA.none (by omega)
  have hb := hU.brk_some hA hl.symm ha e1 e
  have h3l := sx.len
  obtain ⟨r, r', h0, es, p0, b0, y0⟩ := brk_at hB hb
  have hx : ∀ j, nxt ps2 j = if a = j then some p else if c.here = j then none else nxt ps j := fun j => by
    rw [e2, nxt_set (by omega)]
    by_cases q : a = j
    · rw [if_pos q, if_pos q]
    · rw [if_neg q, if_neg q, ex, nxt_set (by omega), e1, nxt_set (by omega), if_neg q]
  refine ⟨h.sx.trans sx, gl, ⟨by rw [h3l, e2, List.length_set, hlx]; exact hl, fun j r3 hr => ?_, ?_⟩, ?_⟩
  · by_cases q : j = a
    · subst q
      rw [off_of (g := p) (by rw [hx, if_pos rfl])]
      exact ((hS _ _ hr).1 rfl).1
    · obtain ⟨r1, h1, f1, -⟩ := (hS _ _ hr).2 q
      rw [f1]
      rw [es, List.getElem?_set] at h1
      by_cases q2 : c.here = j
      · rw [if_pos q2, if_pos hh] at h1
        cases h1
        rw [p0, off_none (by rw [hx, if_neg (Ne.symm q), if_pos q2])]
      · rw [if_neg q2] at h1
        rw [h.rel.val j r1 h1]
        unfold off
        rw [hx, if_neg (Ne.symm q), if_neg q2]
  · rw [e2]
    refine OkP.set (ex ▸ (e1 ▸ h.rel.ok.set (by omega) fun _ q => by cases q).set (by omega) fun _ q => by cases q) (by omega) fun g q => by cases q; omega
  · rw [e2]
    refine hAx.put (by omega) (.step (g := p) (by rw [nxt_set (by omega), if_pos rfl]) (hU.imp _ (fun j hj => ?_) (.stop ?_)))
    · rw [nxt_set (by omega), if_neg (Ne.symm (hU.off j hj)), ex, nxt_set (by omega), if_neg (fun q : c.here = j => hU.notin hA (by rw [q]; exact hj))]
    · rw [nxt_set (by omega), if_neg (Ne.symm hU.ne), ex, nxt_set (by omega), if_pos rfl]
/-! a list comprehension over enumerate -/
structure EnIt (h₀ : Heap) (L : Addr) (h : Heap) (news : Led) (e it l : Addr) : Prop where
  en : IsEnum h e it 0 .none
  li : h.IsListIter it l 0
  ne : e ≠ it
  eL : e ≠ L
  iL : it ≠ L
  e0 : h₀.get? e = none
  i0 : h₀.get? it = none
  off : ∀ p ∈ news, p.1 ≠ e ∧ p.1 ≠ it
theorem fresh_of {h₀ h : Heap} {L : Addr} {m : Str → Option Value} (F : Fr h₀ L h m) {a : Addr} (ha : h.objs.size ≤ a) : h₀.get? a = none := by
  cases e : h₀.get? a with
  | none => rfl
  | some o' => exact absurd (Heap.lt_size (F.keep a o' e)) (Nat.not_lt.mpr ha)
section
variable {prog : Program} {w : World} {A : Around} {E : Value → Shared → Prop} {s : Shared} {h₀ : Heap} {L l : Addr} {m : Str → Option Value} {env : Env} {news : Led} {vs : List Value} {ep : Nat}
theorem call_enum {Q : Value → Shared → Prop} (F : Fr h₀ L s.heap m) (N : News h₀ L s.heap news) (hm : (l, listOf vs.toArray ep) ∈ news)
    (h : ∀ e it h', Fr h₀ L h' m → News h₀ L h' news → EnIt h₀ L h' news e it l → Q (.ref e) { s with heap := h' }) : wpAny (model prog w) A (call (.type "enumerate") [.ref l]) Q E s := by
  refine call_enumerate_list (News.isList N hm) fun h' hE hI hsz hk => ?_
  have hL := F.ns.lt
  refine h _ s.heap.objs.size h' (F.keeps hk) (fun p hp => ⟨hk _ _ (N p hp).1, (N p hp).2⟩) ⟨hE, hI, Nat.succ_ne_self _, ?_, Ne.symm (Nat.ne_of_lt hL), fresh_of F (Nat.le_succ _), fresh_of F (Nat.le_refl _), fun p hp => ?_⟩
  · exact Ne.symm (Nat.ne_of_lt (Nat.lt_succ_of_lt hL))
  · have hp := Heap.lt_size (N p hp).1
    exact ⟨Nat.ne_of_lt (Nat.lt_succ_of_lt hp), Nat.ne_of_lt hp⟩
theorem en_block {elt iter : PySem.Expr} {a b : Str} {pa pb tp : Pos} {kk : Nat} {scope : Scope} {cl : List (Str × Addr)} {pos : Pos} {s₂ : Shared} {e it : Addr} {RR : Value → Addr → Result → Shared → Prop} (J : Nat → List Value → Prop)
    (hh : A.handled = none) (hz : vs.length ≤ sizeLine) (hm : (l, listOf vs.toArray ep) ∈ news) (K : EnIt h₀ L s₂.heap news e it l)
    (hcell : ∀ y ∈ scope.names, y.2 ≠ .cell) (hkind : scope.kind = .function) (hxa : scope.names.lookup a = some .local) (hxb : scope.names.lookup b = some .local) (hab : ¬ a = b)
    (F : Fr h₀ L s₂.heap m) (N : News h₀ L s₂.heap news) (hJ : J 0 [])
    (turn : ∀ (i : Nat) ys v t oE oI C oC D m₂ h tk E', vs[i]? = some v → J i ys → LCg.NsObj oC m₂ → m₂ a = some (.int (i : Int) t) → m₂ b = some v → Fr h₀ L h m → News h₀ L h ((e, oE) :: (it, oI) :: (C, oC) :: (D, LCg.lst ys) :: news) →
      wpAny (model prog w) A (eval elt (compEnvC scope cl C env)) (CmpW h₀ L m s₂ ((e, oE) :: (it, oI) :: (C, oC) :: (D, LCg.lst ys) :: news) (fun y => J (i + 1) (ys ++ [y]))) E' { s₂ with heap := h, toks := tk })
    (hRR : ∀ D C h tk m' ys, Fr h₀ L h m → News h₀ L h ((D, LCg.lst ys) :: news) → LCg.Off1 D news → h.Ns C m' → h₀.get? C = none → h₀.get? D = none → C ≠ L → D ≠ L → C ≠ D → (∀ p ∈ news, p.1 ≠ C) → J vs.length ys → RR (.ref D) C (.ok .next) { s₂ with heap := h, toks := tk }) :
    wpAny (model prog w) A (newList []) (fun acc s₃ => wpAny (model prog w) A (newFunctionEnv scope env.globals cl [] env.qual none .none (some env)) (fun cenv s₄ =>
      codeAny (model prog w) A (.compStart (.ListComp elt [⟨.Tuple [.Name a pa, .Name b pb] kk tp, iter, [], 0⟩] scope pos) 0 (.ref e) acc { cenv with scope := relabel scope env }) (RR acc cenv.locals) s₄) E s₃) E s₂ := by
  refine wpAny_newObj_type (wpAny_newFunctionEnv hcell (by intro y hy; simp at hy) (fun h₁ hns₁ hsb₁ => ?_) hkind)
  dsimp only at hns₁ hsb₁ ⊢
  generalize hH2 : s₂.heap.push { cls := .type "list", dict := none, data := .seq ([] : List Value).toArray } = H2 at hns₁ hsb₁ ⊢
  have hC : H2.objs.size = s₂.heap.objs.size + 1 := by rw [← hH2, Heap.size_push]
  have hDC : s₂.heap.objs.size ≠ H2.objs.size := by rw [hC]; exact Nat.ne_of_lt (Nat.lt_succ_self _)
  have below : ∀ b, b < s₂.heap.objs.size → b ≠ H2.objs.size ∧ b ≠ s₂.heap.objs.size := fun b hb => ⟨by rw [hC]; exact Nat.ne_of_lt (Nat.lt_succ_of_lt hb), Nat.ne_of_lt hb⟩
  have helt : e < s₂.heap.objs.size := Heap.lt_size K.en
  obtain ⟨oI0, hoI0, cI0, dI0⟩ := K.li
  have hilt : it < s₂.heap.objs.size := Heap.lt_size hoI0
  have old : ∀ b o, s₂.heap.get? b = some o → h₁.get? b = some o := fun b o e => hsb₁.extBut b o (below b (Heap.lt_size e)).1 (Heap.get?_push_of_some _ (hH2 ▸ Heap.get?_push_of_some _ e))
  have hacc : h₁.get? s₂.heap.objs.size = some (LCg.lst []) := hsb₁.extBut _ _ hDC (Heap.get?_push_of_some _ (hH2 ▸ Heap.get?_push_size _ rfl))
  have hD₀ : h₀.get? s₂.heap.objs.size = none := fresh_of F (Nat.le_refl _)
  have hC₀ : h₀.get? H2.objs.size = none := fresh_of F (by rw [hC]; exact Nat.le_succ _)
  have hLlt : L < s₂.heap.objs.size := F.ns.lt
  have hDL : s₂.heap.objs.size ≠ L := Ne.symm (below L hLlt).2
  have hCL : H2.objs.size ≠ L := Ne.symm (below L hLlt).1
  have hCe : e ≠ H2.objs.size := (below e helt).1
  have hDe : e ≠ s₂.heap.objs.size := (below e helt).2
  have hCi : it ≠ H2.objs.size := (below it hilt).1
  have hDi : it ≠ s₂.heap.objs.size := (below it hilt).2
  have offC : ∀ p ∈ news, p.1 ≠ H2.objs.size ∧ p.1 ≠ s₂.heap.objs.size := fun p hp => below _ (Heap.lt_size (N p hp).1)
  have hle : l ≠ e := (K.off _ hm).1
  have hli : l ≠ it := (K.off _ hm).2
  have W := WalksT.enumerate (prog := prog) (w := w) hh e it l K.ne hle hli vs.toArray
  have hlen : vs.toArray.size = vs.length := by simp
  rw [hlen] at W
  have loop : ∀ s₃ : Shared, s₃ = { s₂ with heap := h₁, toks := s₂.toks + ([] : List (Str × Value)).length } →
      codeAny (model prog w) A (.compLoop (.ListComp elt [⟨.Tuple [.Name a pa, .Name b pb] kk tp, iter, [], 0⟩] scope pos) 0 (.ref e) (.ref s₂.heap.objs.size) (compEnvC scope cl H2.objs.size env))
        (RR (.ref s₂.heap.objs.size) H2.objs.size) s₃ := by
    rintro s₃ rfl
    refine kcp_loop
      (fun k s' => ∃ h' tk i ys m', s' = { s₂ with heap := h', toks := tk } ∧ i ≤ vs.length ∧ k = vs.length + 1 - i ∧ ys.length = i ∧ (∃ old, IsEnum h' e it ((i : Nat) : Int) old) ∧ h'.IsListIter it l i ∧ Fr h₀ L h' m ∧ h'.Ns H2.objs.size m' ∧
        News h₀ L h' ((s₂.heap.objs.size, LCg.lst ys) :: news) ∧ J i ys) ?_ (vs.length + 1)
      ⟨h₁, _, 0, [], _, rfl, Nat.zero_le _, rfl, rfl, ⟨_, old _ _ K.en⟩, ⟨oI0, old _ _ hoI0, cI0, dI0⟩, F.keeps old, hns₁, fun p hp => ?_, hJ⟩
    · rintro k s' ⟨h', tk, i, ys, m', rfl, hi, rfl, hyl, hen', hli', F', hn', N', hJ'⟩
      have hl' : h'.IsList l vs.toArray := News.isList N' (List.mem_cons_of_mem _ hm)
      by_cases hlt : i < vs.length
      · refine W.item i _ _ _ hlt ⟨hen', hli', hl'⟩ fun T vals h₂ tk₂ hP hT hTup hMid hk₂ => ?_
        obtain ⟨t, v, hv, rfl⟩ := hP
        have hTw := W.apart _ _ _ hMid
        refine W.go _ _ _ i T _ _ _ hMid fun h₃ hst₃ hk₃ => ?_
        have hTup₃ : h₃.IsTuple T #[.int (i : Int) t, v] := by
          obtain ⟨o, ho, r⟩ := hTup
          exact ⟨o, hk₃ _ _ hTw ho, r⟩
        have notw : ∀ c, c ≠ e → c ≠ it → c ∉ [e, it] := fun c h1 h2 hm => by
          rcases List.mem_cons.mp hm with h | hm
          · exact h1 h
          · exact h2 (List.mem_singleton.mp hm)
        have up₃ : ∀ c o, c ≠ e → c ≠ it → h'.get? c = some o → h₃.get? c = some o := fun c o h1 h2 q => hk₃ c o (notw c h1 h2) (hk₂ c o (notw c h1 h2) q)
        refine kcp_assign (env := compEnvC scope cl H2.objs.size env) hh hTup₃ (lookup_relabel_local hxa) (lookup_relabel_local hxb) (by simp [compEnvC, relabel, hkind]) (hn'.at' fun o q => up₃ _ o (Ne.symm hCe) (Ne.symm hCi) q) fun h₄ tk₄ hn₄ hs₄ => ?_
        have up : ∀ c o, c ≠ e → c ≠ it → c ≠ H2.objs.size → h'.get? c = some o → h₄.get? c = some o := fun c o h1 h2 h3 q => hs₄ c o h3 (up₃ c o h1 h2 q)
        obtain ⟨⟨old₃, hE₃⟩, ⟨oI, hoI, cI, dI⟩, _⟩ := hst₃
        have hE₄ : IsEnum h₄ e it (((i + 1 : Nat)) : Int) old₃ := hs₄ e _ hCe hE₃
        have hI₄ : h₄.get? it = some oI := hs₄ it _ hCi hoI
        obtain ⟨oC, heC, hoC⟩ := LCg.ns_obj hn₄
        have F₄ : Fr h₀ L h₄ m := ⟨F'.ns.at' fun o q => up _ o (Ne.symm K.eL) (Ne.symm K.iL) (Ne.symm hCL) q, fun c o q => up c o (fun x => by rw [x, K.e0] at q; cases q) (fun x => by rw [x, K.i0] at q; cases q) (fun x => by rw [x, hC₀] at q; cases q) (F'.keep c o q), F'.above⟩
        have N₄ : News h₀ L h₄ ((e, _) :: (it, oI) :: (H2.objs.size, oC) :: (s₂.heap.objs.size, LCg.lst ys) :: news) := fun q hq => by
          rcases List.mem_cons.mp hq with rfl | hq
          · exact ⟨hE₄, K.eL, K.e0⟩
          · rcases List.mem_cons.mp hq with rfl | hq
            · exact ⟨hI₄, K.iL, K.i0⟩
            · rcases List.mem_cons.mp hq with rfl | hq
              · exact ⟨heC, hCL, hC₀⟩
              · have z := N' q hq
                rcases List.mem_cons.mp hq with rfl | hq
                · exact ⟨up _ _ (Ne.symm hDe) (Ne.symm hDi) hDC z.1, z.2⟩
                · exact ⟨up _ _ (K.off q hq).1 (K.off q hq).2 (offC q hq).1 z.1, z.2⟩
        refine wpAny_mono (turn i ys v t _ oI H2.objs.size oC s₂.heap.objs.size _ h₄ _ _ (by simpa using hv) hJ' hoC (by simp [hab]) (by simp) F₄ N₄) (fun y s₅ h₅ => ?_) fun _ _ e => e
        obtain ⟨h₅, tk₅, rfl, F₅, N₅, J₅⟩ := h₅
        have zE := (N₅ _ (.head _)).1
        have zI := (N₅ _ (.tail _ (.head _))).1
        have zC := (N₅ _ (.tail _ (.tail _ (.head _)))).1
        have zD := (N₅ _ (.tail _ (.tail _ (.tail _ (.head _))))).1
        have N₅' : News h₀ L h₅ news := fun q hq => N₅ q (.tail _ (.tail _ (.tail _ (.tail _ hq))))
        refine append_at (hsz := by show ys.toArray.size ≤ sizeLine; rw [List.size_toArray, hyl]; exact Nat.le_trans hi hz) zD fun h₆ hs₆ hD₆ => ?_
        refine ⟨vs.length + 1 - (i + 1), by omega, h₆, tk₅, i + 1, ys ++ [y], _, rfl, hlt, rfl, by rw [List.length_append, List.length_singleton, hyl], ⟨_, hs₆.extBut e _ hDe zE⟩, ⟨oI, hs₆.extBut it _ hDi zI, cI, dI⟩, F₅.change hs₆ hDL hD₀,
          (hoC.ns zC).sameBut hs₆ (Ne.symm hDC), fun q hq => ?_, J₅⟩
        rcases List.mem_cons.mp hq with rfl | hq
        · exact ⟨hD₆.trans (congrArg some (LCg.lst_snoc ys y)), hDL, hD₀⟩
        · exact ⟨hs₆.extBut _ _ (offC q hq).2 (N₅' q hq).1, (N₅' q hq).2⟩
      · have hin : i = vs.length := Nat.le_antisymm hi (Nat.not_lt.mp hlt)
        subst hin
        refine W.done _ _ _ ⟨hen', hli', hl'⟩ fun h₂ tk₂ hk₂ => ?_
        have notw : ∀ c, c ≠ e → c ≠ it → c ∉ [e, it] := fun c h1 h2 hm => by
          rcases List.mem_cons.mp hm with h | hm
          · exact h1 h
          · exact h2 (List.mem_singleton.mp hm)
        have up : ∀ c o, c ≠ e → c ≠ it → h'.get? c = some o → h₂.get? c = some o := fun c o h1 h2 q => hk₂ c o (notw c h1 h2) q
        refine hRR _ _ h₂ tk₂ _ ys ⟨F'.ns.at' fun o q => up _ o (Ne.symm K.eL) (Ne.symm K.iL) q, fun c o q => up c o (fun x => by rw [x, K.e0] at q; cases q) (fun x => by rw [x, K.i0] at q; cases q) (F'.keep c o q), F'.above⟩ (fun p hp => ?_) ?_
          (hn'.at' fun o q => up _ o (Ne.symm hCe) (Ne.symm hCi) q) hC₀ hD₀ hCL hDL (Ne.symm hDC) (fun p hp => (offC p hp).1) hJ'
        · have z := N' p hp
          rcases List.mem_cons.mp hp with rfl | hp
          · exact ⟨up _ _ (Ne.symm hDe) (Ne.symm hDi) z.1, z.2⟩
          · exact ⟨up _ _ (K.off p hp).1 (K.off p hp).2 z.1, z.2⟩
        · exact (LCg.Off3.of (I := s₂.heap.objs.size) (C := s₂.heap.objs.size) fun p hp => ⟨(offC p hp).2, (offC p hp).2, (offC p hp).2⟩).one
    · rcases List.mem_cons.mp hp with rfl | hp
      · exact ⟨hacc, hDL, hD₀⟩
      · exact ⟨old _ _ (N p hp).1, (N p hp).2⟩
  exact codeAny_compStart_list (loop _ rfl) (wpAny_pyIter_enum (old _ _ K.en) (loop _ rfl))
/-- the source of such a one -/
def EnSrc (prog : Program) (w : World) (A : Around) (h₀ : Heap) (L : Addr) (m : Str → Option Value) (env : Env) (elt : PySem.Expr) (a b : Str) (scope : Scope) (cl : List (Str × Addr)) (Fin : Shared → List Value → Led → Prop) (xv : Value) (s₁ : Shared) : Prop :=
  ∃ (e it l : Addr) (vs : List Value) (ep : Nat) (news : Led) (J : Nat → List Value → Prop), xv = .ref e ∧ A.handled = none ∧ Fr h₀ L s₁.heap m ∧ News h₀ L s₁.heap news ∧ (l, listOf vs.toArray ep) ∈ news ∧ vs.length ≤ sizeLine ∧ EnIt h₀ L s₁.heap news e it l ∧ J 0 [] ∧
    (∀ (i : Nat) ys v t oE oI C oC D m₂ h tk E', vs[i]? = some v → J i ys → LCg.NsObj oC m₂ → m₂ a = some (.int (i : Int) t) → m₂ b = some v → Fr h₀ L h m → News h₀ L h ((e, oE) :: (it, oI) :: (C, oC) :: (D, LCg.lst ys) :: news) →
      wpAny (model prog w) A (eval elt (compEnvC scope cl C env)) (CmpW h₀ L m s₁ ((e, oE) :: (it, oI) :: (C, oC) :: (D, LCg.lst ys) :: news) (fun y => J (i + 1) (ys ++ [y]))) E' { s₁ with heap := h, toks := tk }) ∧
    (∀ ys, J vs.length ys → Fin s₁ ys news)
theorem EnSrc.of {elt : PySem.Expr} {a b : Str} {scope : Scope} {cl : List (Str × Addr)} {Fin : Shared → List Value → Led → Prop} {e it : Addr} (J : Nat → List Value → Prop) (hh : A.handled = none) (F : Fr h₀ L s.heap m) (N : News h₀ L s.heap news) (hm : (l, listOf vs.toArray ep) ∈ news) (hz : vs.length < 100) (K : EnIt h₀ L s.heap news e it l) (hJ : J 0 [])
    (turn : ∀ (i : Nat) ys v t oE oI C oC D m₂ h tk E', vs[i]? = some v → J i ys → LCg.NsObj oC m₂ → m₂ a = some (.int (i : Int) t) → m₂ b = some v → Fr h₀ L h m → News h₀ L h ((e, oE) :: (it, oI) :: (C, oC) :: (D, LCg.lst ys) :: news) →
      wpAny (model prog w) A (eval elt (compEnvC scope cl C env)) (CmpW h₀ L m s ((e, oE) :: (it, oI) :: (C, oC) :: (D, LCg.lst ys) :: news) (fun y => J (i + 1) (ys ++ [y]))) E' { s with heap := h, toks := tk })
    (fin : ∀ ys, J vs.length ys → Fin s ys news) : EnSrc prog w A h₀ L m env elt a b scope cl Fin (.ref e) s :=
  ⟨e, it, l, vs, ep, news, J, rfl, hh, F, N, hm, by rw [sizeLine_eq]; omega, K, hJ, turn, fin⟩
theorem en_ListComp {elt iter : PySem.Expr} {a b : Str} {pa pb tp : Pos} {kk : Nat} {scope : Scope} {cl : List (Str × Addr)} {pos : Pos} {Q : Value → Shared → Prop} (_F₀ : Fr h₀ L s.heap m)
    (hclos : closureFor scope env = pure cl) (hcell : ∀ y ∈ scope.names, y.2 ≠ .cell) (hkind : scope.kind = .function)
    (hnames : ∀ y ∈ scope.names, y.2 = .local → scope.names.lookup y.1 = some .local) (hxa : scope.names.lookup a = some .local) (hxb : scope.names.lookup b = some .local) (hab : ¬ a = b)
    (h : wpAny (model prog w) A (eval iter env) (EnSrc prog w A h₀ L m env elt a b scope cl (fun s₂ => LCg.FinE h₀ L m s₂ Q)) E s)
    (hs : ∀ x, foldedSetIterable iter env x = pure x := by intro _; rfl) :
    wpAny (model prog w) A (eval (.ListComp elt [⟨.Tuple [.Name a pa, .Name b pb] kk tp, iter, [], 0⟩] scope pos) env) Q E s := by
  rw [eval_ListComp]
  refine wpAny_comprehension_free (use := none) rfl hs hclos hkind hnames (wpAny_mono h (fun xv s₁ h₁ => ?_) fun _ _ e => e)
  obtain ⟨e, it, l, vs, ep, news, J, rfl, hh, F, N, hm, hz, K, hJ, turn, fin⟩ := h₁
  refine wpAny_pyIter_enum K.en ?_
  refine en_block J hh hz hm K hcell hkind hxa hxb hab F N hJ turn ?_
  intro D C h tk m' ys F' N' o1 hn hC₀ hD₀ hCL hDL hCD offC hj
  refine ⟨m', hn, fun h'' hs'' => fin ys hj D h'' tk (F'.change hs'' hCL hC₀) (fun p hp => ?_) o1⟩
  refine ⟨hs''.extBut _ _ ?_ (N' p hp).1, (N' p hp).2⟩
  rcases List.mem_cons.mp hp with rfl | hp
  · exact Ne.symm hCD
  · exact offC p hp
end
theorem KK_as : ∀ P, KA = (KK P).map (·.1) := fun P => by kernel_rfl
abbrev dOf (st : Stmt) {nm : Str} {a : Arguments} {b : List Stmt} {dl : List Expr} {r : Option Expr} {tp : List TypeParam} {sc : Scope} {ts : Option Scope} {bd : Str} {ps : Pos} (_h : Stmt.FunctionDef nm a b dl r tp sc ts bd ps = st) : DefRec := ⟨nm, a, b, sc, ps⟩
noncomputable abbrev lawD : DefRec := dOf (tS 60) rfl
abbrev WT : Prop := WalkO VV [] (XL VV []) (kHook KK KA KK_as).says PySem.Challenge.rw_nz0117_01.row.toRowW lawD [] fun f vs => PySem.call f vs
theorem Fr.own {h₀ h : Heap} {L : Addr} {M : Str → Option Value} {x : Str} {v : Option Value} (F : Fr h₀ L h M) (e : M x = v) : Fr h₀ L h (fun y => if y = x then v else M y) :=
  Fr.cg F fun z => by
    by_cases q : z = x
    · subst q; rw [if_pos rfl]; exact e
    · rw [if_neg q]
local macro_rules | `(tactic| walk_at "call type:range") => `(tactic| ((rename Fr _ _ _ _ => F'); (rename News _ _ _ _ => N'); (with_unfolding_all refine range1_rows F' N' ?_; intro _ _ _ _ _ _ _ _ _)))
theorem perm_two {α : Type} {x d : α} (A R : List α) : ((A ++ [x, d]) ++ R).Perm (x :: d :: (A ++ R)) := by
  rw [List.append_assoc]
  exact List.perm_middle.trans (List.Perm.cons _ List.perm_middle)
theorem ldA_next {P : Params} {il pen cells x d I : Addr} {R : Led} {rs : List IR} {c : PN} {ep : Nat} {oI : Obj} {es : List DictEntry} {h₀ h : Heap} {L : Addr} (r : IR) (hx : r.x = x) (hd : r.d = d) (he : infoEs P r = es)
    (N : News h₀ L h ((il, listOf (rowOf rs ++ [Value.ref x]).toArray ep) :: (x, instObj 175 d) :: (d, dictOf es 16) :: (pen, penObj cells c) :: (I, oI) :: (rowsLed P rs ++ R)))
    (nd : ND ((il, listOf (rowOf rs ++ [Value.ref x]).toArray ep) :: (x, instObj 175 d) :: (d, dictOf es 16) :: (pen, penObj cells c) :: (I, oI) :: (rowsLed P rs ++ R))) :
    News h₀ L h ((I, oI) :: ldA P il pen cells R ⟨rs ++ [r], c, ep⟩) ∧ ND ((I, oI) :: ldA P il pen cells R ⟨rs ++ [r], c, ep⟩) := by
  subst hx; subst hd; subst he
  have p : ((il, listOf (rowOf rs ++ [Value.ref r.x]).toArray ep) :: (r.x, instObj 175 r.d) :: (r.d, dictOf (infoEs P r) 16) :: (pen, penObj cells c) :: (I, oI) :: (rowsLed P rs ++ R)).Perm ((I, oI) :: ldA P il pen cells R ⟨rs ++ [r], c, ep⟩) := by
    unfold ldA
    dsimp only
    rw [show rowOf (rs ++ [r]) = rowOf rs ++ [Value.ref r.x] by unfold rowOf; rw [List.map_append]; rfl, rowsLed_append, rowsLed_one]
    refine (pt2 _ (pt2 _ (pt2 _ (pt2 _ (List.Perm.refl _))))).trans (List.Perm.cons _ (List.Perm.cons _ ?_))
    exact (pt2 _ (pt2 _ (List.Perm.refl _))).trans (List.Perm.cons _ (perm_two _ _).symm)
  exact ⟨nperm p N, nd.perm p⟩
section
variable {w : World} {A : Around} {E : Value → Shared → Prop} {s : Shared} {h₀ : Heap} {L a c : Addr} {m : Str → Option Value} {cur led : Led} {cn : Str} {cs : Scope} {ccd : Value} {cl : List (Str × Addr)} {x : Str} {o : Obj} {v : Value} {v₀ : Option Value}
theorem store_cell {Q : Unit → Shared → Prop} (F : Fr h₀ L s.heap m) (N : News h₀ L s.heap cur) (hp : cur.Perm ((c, o) :: led)) (nd : ND ((c, o) :: led)) (hc : cl.lookup x = some c) (hd : o.data = .cell v₀)
    (h : ∀ h' o', Fr h₀ L h' m → News h₀ L h' ((c, o') :: led) → o'.data = .cell (some v) → ND ((c, o') :: led) → Q () { s with heap := h' })
    (hk : cs.kind = .function := by rfl) (hx : (envX cn cs L a ccd cl).kindOf x = some .cell := by rfl) : wpAny (model PySem.Challenge.rw_nz0117_01.row.prog w) A (storeName (envX cn cs L a ccd cl) x v) Q E s :=
  storeX_C F (nperm hp N) hc (UpdF.nd0 nd) hd (fun h' o' F' N' d' => h h' o' F' N' d' nd.put) hk hx
end
/-- the state of the loop that draws the bonds -/
structure SB where
  rs : List IR
  ps : Par
  vs : List Value
  c : PN
  ep : Nat
  gv : Option Value
def ldB (P : Params) (pl pen cells : Addr) (R : Led) (σ : SB) : Led := (pl, listOf σ.vs.toArray σ.ep) :: (pen, penObj cells σ.c) :: (rowsLed P σ.rs ++ R)
structure OkB (P : Params) (rs0 : List IR) (pl pen cells : Addr) (R : Led) (i : Nat) (σ : SB) : Prop where
  sx : SameX rs0 σ.rs
  gl : GL σ.rs
  pk : PNok σ.c (10 + 2 * (i : Int))
  pv : PVs σ.vs σ.ps
  rel : RelP σ.rs σ.ps
  lo : ∀ j, i ≤ j → nxt σ.ps j = none
  all : AllEnd σ.ps
  nd : ND (ldB P pl pen cells R σ)
theorem RelP.start {rs : List IR} (h : ∀ r ∈ rs, r.parent = 0) : RelP rs (List.replicate rs.length none) :=
  ⟨by rw [List.length_replicate], fun i r hr => by rw [h r (List.mem_of_getElem? hr), off_none (nxt_rep _ _)], OkP.rep _⟩
theorem OkB.start {P : Params} {rs : List IR} {pl pen cells : Addr} {R : Led} {c : PN} {gv : Option Value} (hG : GL rs) (hp : ∀ r ∈ rs, r.parent = 0) (hc : PNok c 10) (nd : ND (ldB P pl pen cells R ⟨rs, List.replicate rs.length none, List.replicate rs.length Value.none, c, 0, gv⟩)) :
    OkB P rs pl pen cells R 0 ⟨rs, List.replicate rs.length none, List.replicate rs.length Value.none, c, 0, gv⟩ :=
  ⟨SameX.rfl', hG, hc, PVs.rep _, RelP.start hp, fun j _ => nxt_rep _ j, AllEnd.rep _, nd⟩
/-- nothing is bound -/
theorem OkB.keep {P : Params} {rs0 : List IR} {pl pen cells : Addr} {R : Led} {i : Nat} {σ : SB} {c : PN} {vs : List Value} {ep : Nat} {gv : Option Value} (h : OkB P rs0 pl pen cells R i σ) (hc : PNok c (10 + 2 * (i : Int) + 1 + 1)) (hv : PVs vs σ.ps) (nd : ND (ldB P pl pen cells R ⟨σ.rs, σ.ps, vs, c, ep, gv⟩)) :
    OkB P rs0 pl pen cells R (i + 1) ⟨σ.rs, σ.ps, vs, c, ep, gv⟩ :=
  ⟨h.sx, h.gl, hc.mono (by omega), hv, h.rel, fun j hj => h.lo j (by omega), h.all, nd⟩
/-- a bond is drawn -/
theorem OkB.bind {P : Params} {rs0 rs' : List IR} {pl pen cells : Addr} {R : Led} {i g : Nat} {σ : SB} {ps' : Par} {c : PN} {vs : List Value} {ep : Nat} {gv : Option Value} {r r' : IR} (h : OkB P rs0 pl pen cells R i σ) (hi : i < σ.ps.length) (hg : g < σ.ps.length) (hgi : g ≠ i) (hc : PNok c (10 + 2 * (i : Int) + 1 + 1))
    (ep' : ps' = σ.ps.set i (some g)) (hv : PVs vs ps') (he : Ends ps' i) (hr : σ.rs[i]? = some r) (er : rs' = σ.rs.set i r') (hx : r'.x = r.x) (hd : r'.d = r.d) (hgl : r'.glyph = r.glyph) (hp : r'.parent = (g : Int) - (i : Int)) (nd : ND (ldB P pl pen cells R ⟨rs', ps', vs, c, ep, gv⟩)) :
    OkB P rs0 pl pen cells R (i + 1) ⟨rs', ps', vs, c, ep, gv⟩ := by
  subst er; subst ep'
  refine ⟨h.sx.trans (SameX.set hr hx hd), h.gl.set hr hgl, hc.mono (by omega), hv, h.rel.put hi (List.length_set ..) (by rw [List.getElem?_set_self (List.getElem?_eq_some_iff.mp hr).1]) hp hg hgi fun j q hj hq => ?_, fun j hj => ?_, h.all.put hi he, nd⟩
  · rw [List.getElem?_set, if_neg (Ne.symm hj)] at hq
    exact ⟨q, hq, rfl⟩
  · show nxt (σ.ps.set i (some g)) j = none
    rw [nxt_set hi, if_neg (by omega)]
    exact h.lo j (by omega)
theorem own_z {h₀ h : Heap} {L : Addr} {m : Str → Option Value} (z : Str) (F : Fr h₀ L h m) : Fr h₀ L h (fun y => if y = z then m z else m y) := (own_self z m) ▸ F
theorem perm_B {α : Type} {c p t i n : α} (A R : List α) : (c :: p :: t :: i :: n :: (A ++ R)).Perm (p :: n :: (A ++ (c :: t :: i :: R))) := by
  refine (pt2 _ (List.Perm.refl _)).trans (List.Perm.cons _ ?_)
  refine (pt2 _ (pt2 _ (pt2 _ (List.Perm.refl _)))).trans (List.Perm.cons _ ?_)
  exact (List.perm_middle.trans (List.Perm.cons _ (List.perm_middle.trans (List.Perm.cons _ List.perm_middle)))).symm
theorem il_of {rs rs9 : List IR} {il I : Addr} {epi : Nat} {a b x y : Addr × Obj} {A R : Led} (_h : ∀ p ∈ a :: b :: (A ++ x :: y :: (il, listOf (rowOf rs).toArray epi) :: R), p.1 ≠ I) (e : SameX rs rs9) : (il, listOf (rowOf rs9).toArray epi) ∈ x :: y :: (il, listOf (rowOf rs).toArray epi) :: R := same_row (.tail _ (.tail _ (.head _))) e
theorem perm_b3 {α : Type} {a b c : α} (R : List α) : (a :: b :: c :: R).Perm (b :: c :: a :: R) := (pt2 a (List.Perm.refl _)).trans (List.Perm.cons _ (pt2 a (List.Perm.refl _)))
theorem perm_b2 {α : Type} {a b c : α} (R : List α) : (a :: b :: c :: R).Perm (c :: a :: b :: R) := (perm_b3 (a := c) (b := a) (c := b) R).symm
theorem perm_b1 {α : Type} {a b c : α} (A R : List α) : (A ++ a :: b :: c :: R).Perm (c :: a :: b :: (A ++ R)) := (List.perm_middle.trans (List.Perm.cons _ (List.perm_middle.trans (List.Perm.cons _ List.perm_middle)))).trans (perm_b2 _)
theorem OkB.bindI {P : Params} {rs0 rs' : List IR} {pl pen cells : Addr} {R : Led} {i : Nat} {n G : Int} {σ : SB} {c : PN} {vs : List Value} {ep : Nat} {gv : Option Value} {r r' : IR} (h : OkB P rs0 pl pen cells R i σ) (hi0 : (0 + (i : Int)).toNat = i) (hi : (i : Int) < n) (gk : 0 ≤ G ∧ G < n ∧ G ≠ 0 + (i : Int)) (hn : (σ.ps.length : Int) = n) (hc : PNok c (10 + 2 * (i : Int) + 1 + 1))
    (hv : PVs vs (σ.ps.set (0 + (i : Int)).toNat (some G.toNat))) (he : Ends (σ.ps.set (0 + (i : Int)).toNat (some G.toNat)) (0 + (i : Int)).toNat) (hr : σ.rs[(0 + (i : Int)).toNat]? = some r) (er : rs' = σ.rs.set (0 + (i : Int)).toNat r') (hx : r'.x = r.x) (hd : r'.d = r.d) (hgl : r'.glyph = r.glyph) (hp : r'.parent = (G.toNat : Int) - (0 + (i : Int))) (nd : ND (ldB P pl pen cells R ⟨rs', σ.ps.set (0 + (i : Int)).toNat (some G.toNat), vs, c, ep, gv⟩)) :
    OkB P rs0 pl pen cells R (i + 1) ⟨rs', σ.ps.set (0 + (i : Int)).toNat (some G.toNat), vs, c, ep, gv⟩ := by
  obtain ⟨g0, g1, g2⟩ := gk
  rw [hi0] at *
  exact h.bind (by omega) (by omega) (by omega) hc rfl hv he hr er hx hd hgl (by omega) nd
noncomputable def lawFor (k : Nat) : List Stmt := match List.drop k lawD.body with | .For _ _ b _ _ :: _ => b | _ => []
section
local macro_rules | `(tactic| walk_at "setItem ref int") => `(tactic| k_extra "setItem ref int")
local macro_rules | `(tactic| walk_at "of turn_B") => `(tactic| fail)
set_option maxHeartbeats 2000000 in
theorem turn_B (w : World) (mean : ExcName → Option Value) (mg mb : Str → Option Value) (h₀ : Heap) (fa cc L : Addr) (s : Shared) (Q : Flow → Shared → Prop) (E : Value → Shared → Prop) (mx : Str → Option Value) (B : Below callerA h₀ [] h₀) (X : Frag.In (KK w.params) h₀) (T : Top VV (looseW VV []) mean mg mb h₀)
    {n wy : Int} {tn tw u9 : Tok} {il pen cells pl I9 : Addr} {oc oI9 : Obj} {t0 : Addr × Obj} {R : Led} {rs rs9 : List IR} {ps9 : Par} {vs9 : List Value} {c9 : PN} {epi ep9 i9 tk9 : Nat} {gv9 : Option Value} {hh9 : Heap}
    (hoc : oc.data = .cell (some (.ref pl))) (hA : PenA R cells) (h1 : 1 ≤ n) (h7 : n ≤ 7) (hl : rs.length = n.toNat) (hi9 : i9 < n.toNat)
    (hP9 : OkB w.params rs pl pen cells ((L + 1, oc) :: t0 :: (il, listOf (rowOf rs).toArray epi) :: R) i9 ⟨rs9, ps9, vs9, c9, ep9, gv9⟩)
    (hn9 : ∀ p ∈ (pl, listOf vs9.toArray ep9) :: (pen, penObj cells c9) :: (rowsLed w.params rs9 ++ (L + 1, oc) :: t0 :: (il, listOf (rowOf rs).toArray epi) :: R), p.1 ≠ I9)
    (F9 : Fr h₀ L hh9 (fun y => if y = Str.ofString "place" then some (.int (0 + (i9 : Int)) u9) else if y = Str.ofString "goal" then gv9 else if y = Str.ofString "infos" then some (.ref il) else if y = Str.ofString "count" then some (.int n tn) else if y = Str.ofString "way" then some (.int wy tw) else if y = Str.ofString "pen" then some (.ref pen) else mx y))
    (N9 : News h₀ L hh9 ((I9, oI9) :: (pl, listOf vs9.toArray ep9) :: (pen, penObj cells c9) :: (rowsLed w.params rs9 ++ (L + 1, oc) :: t0 :: (il, listOf (rowOf rs).toArray epi) :: R))) :
    wpAny (model PySem.Challenge.rw_nz0117_01.row.prog w) (callerA.deeper (envOfC lawD.name lawD.scope L fa (Value.ref cc))) (execs (lawFor 6) (envOfC lawD.name lawD.scope L fa (Value.ref cc)))
      (ForW h₀ L s (Str.ofString "place") I9 oI9 (fun y => if y = Str.ofString "infos" then some (.ref il) else if y = Str.ofString "count" then some (.int n tn) else if y = Str.ofString "way" then some (.int wy tw) else if y = Str.ofString "pen" then some (.ref pen) else mx y)
        (fun m σ y => if y = Str.ofString "goal" then σ.gv else m y) (ldB w.params pl pen cells ((L + 1, oc) :: t0 :: (il, listOf (rowOf rs).toArray epi) :: R)) (OkB w.params rs pl pen cells ((L + 1, oc) :: t0 :: (il, listOf (rowOf rs).toArray epi) :: R) (i9 + 1)) Q) E { s with heap := hh9, toks := tk9 } := by
  have nd9 := ND.ne (o := oI9) hn9 hP9.nd
  have sx9 := hP9.sx
  have gl9 := hP9.gl
  have pk9 := hP9.pk
  have pv9 := hP9.pv
  have rel9 := hP9.rel
  have lo9 := hP9.lo i9 (Nat.le_refl _)
  dsimp only at sx9 gl9 pk9 pv9 rel9 lo9 nd9
  have ok9 := rel9.ok
  have ln9 := sx9.len
  have lp9 := rel9.len
  have lz9 : rs9.length < 100 := by omega
  have lzp9 : List.length ps9 < 100 := by omega
  have hil9 := il_of hn9 sx9
  have hi0 : (0 + (i9 : Int)).toNat = i9 := by omega
  have en9 : nxt ps9 (0 + (i9 : Int)).toNat = none := by rw [hi0]; exact lo9
  k_with_none
  k_with "call ref" => (k_here; (with_reducible show wpAny _ _ (call (Value.ref 542) _) _ _ _); k_dflt (refine' use_spec (draw_a _ _ _ _ _ _ _ _ ?h1_u26 ?h2_u26 ?h5_u26 ?h6_u26 ?h7_u26 ?h8_u26) ?p0_u26 ?B0_u26 ?F0_u26 ?X0_u26 ?N0_u26 ?T0_u26 ?k0_u26 ?d0_u26 ?u0_u26 ?_; (case B0_u26 => k_asm); (case F0_u26 => k_asm); (case X0_u26 => k_asm); (case N0_u26 => k_asm); (case T0_u26 => k_asm); (case k0_u26 => first | exact rfl | assumption); (case p0_u26 => tb_start); (case h2_u26 => first | assumption | exact PenA.mono (by assumption) (by first | k_sub | (intro p9_u26 h9_u26; k_mem))); (case h5_u26 => assumption); (case h1_u26 => first | assumption | (rename News _ _ _ _ => N7_u26; exact nd_of N7_u26 (by tb_start) (by k_ownIn))); (case h6_u26 => omega); (case h7_u26 => omega); (case h8_u26 => omega); (case d0_u26 => ktr_room); (case u0_u26 => ktr_units); k_whole); intro r9_u26 n9_u26 h9_u26 t9_u26 P9_u26 F9_u26 N9_u26; obtain ⟨d8_u26, t8_u26, c8_u26, e8_u26, d08_u26, d18_u26, e9_u26, ok8_u26, nd8_u26⟩ := P9_u26; subst n9_u26; subst e8_u26; (try k_sweep); (try dsimp only); (try k_fold))
  k_with "call ref" => (k_here; (with_reducible show wpAny _ _ (call (Value.ref 549) _) _ _ _); k_dflt (refine' use_spec (ends_i _ _ _ _ _ _ _ _ ?h1_u25 ?h2_u25 ?h3_u25 ?h4_u25 ?h5_u25 ?h6_u25 ?h7_u25) ?p0_u25 ?B0_u25 ?F0_u25 ?X0_u25 ?N0_u25 ?T0_u25 ?k0_u25 ?d0_u25 ?u0_u25 ?_; (case B0_u25 => k_asm); (case F0_u25 => k_asm); (case X0_u25 => k_asm); (case N0_u25 => k_asm); (case T0_u25 => k_asm); (case k0_u25 => first | exact rfl | assumption); (case p0_u25 => exact List.Perm.refl _); (case h2_u25 => k_mem); (case h3_u25 => assumption); (case h1_u25 => first | assumption | (rename News _ _ _ _ => N7_u25; exact nd_of N7_u25 (by tb_rel) (by k_ownIn))); (case h4_u25 => assumption); (case h5_u25 => assumption); (case h6_u25 => first | assumption | omega); (case h7_u25 => first | assumption | omega); (case d0_u25 => ktr_room); (case u0_u25 => ktr_units); k_whole); intro r9_u25 n9_u25 h9_u25 t9_u25 P9_u25 F9_u25 N9_u25; obtain ⟨e9_u25, b8_u25, e8_u25, i8_u25⟩ := P9_u25; subst n9_u25; subst e8_u25; (try k_sweep); (try dsimp only); (try k_fold))
  k_with "setAttr ref" => (k_here; (with_reducible show wpAny _ _ (setAttr (Value.ref _) (Str.ofString "y_offset") (Value.int _ _)) _ _ _); k_dflt (refine' set_yo ?F_u12 ?X_u12 ?N_u12 ?p_u12 ?nd_u12 ?hr_u12 ?hx_u12 ?k1_u12 ?k2_u12 ?k3_u12 ?k4_u12 ?_; (case F_u12 => k_asm); (case X_u12 => k_asm); (case N_u12 => k_asm); (case p_u12 => tb_rel); (case nd_u12 => first | assumption | (rename News _ _ _ _ => N7_u12; exact nd_of N7_u12 (by tb_rel) (by k_ownIn))); (case hr_u12 => assumption); (case hx_u12 => first | exact rfl | assumption); (case k1_u12 => k_is); (case k2_u12 => k_is); (case k3_u12 => k_is); (case k4_u12 => k_is); k_whole); intro hq_u12 rs1_u12 e1_u12 sx1_u12 ln1_u12 gl1_u12 nd1_u12 hr1_u12 mx1_u12 md1_u12 Fq_u12 Nq_u12; (try (have gl2_u12 := gl1_u12 (by assumption))); (try (have m2_u12 := same_row (by assumption) sx1_u12)); (try (have len2_u12 : List.length rs1_u12 < 100 := (by omega))); (try k_sweep))
  k_with "setAttr ref" => (k_here; (with_reducible show wpAny _ _ (setAttr (Value.ref _) (Str.ofString "bond") (Value.str _ _)) _ _ _); k_dflt (refine' set_bond ?F_u11 ?X_u11 ?N_u11 ?p_u11 ?nd_u11 ?hr_u11 ?hx_u11 ?k1_u11 ?k2_u11 ?k3_u11 ?k4_u11 ?_; (case F_u11 => k_asm); (case X_u11 => k_asm); (case N_u11 => k_asm); (case p_u11 => tb_rel); (case nd_u11 => first | assumption | (rename News _ _ _ _ => N7_u11; exact nd_of N7_u11 (by tb_rel) (by k_ownIn))); (case hr_u11 => assumption); (case hx_u11 => first | exact rfl | assumption); (case k1_u11 => k_is); (case k2_u11 => k_is); (case k3_u11 => k_is); (case k4_u11 => k_is); k_whole); intro hq_u11 rs1_u11 e1_u11 sx1_u11 ln1_u11 gl1_u11 nd1_u11 hr1_u11 mx1_u11 md1_u11 Fq_u11 Nq_u11; (try (have gl2_u11 := gl1_u11 (by assumption))); (try (have m2_u11 := same_row (by assumption) sx1_u11)); (try (have len2_u11 : List.length rs1_u11 < 100 := (by omega))); (try k_sweep))
  k_with "setAttr ref" => (k_here; (with_reducible show wpAny _ _ (setAttr (Value.ref _) (Str.ofString "parent") (Value.int _ _)) _ _ _); k_dflt (refine' set_parent ?F_u10 ?X_u10 ?N_u10 ?p_u10 ?nd_u10 ?hr_u10 ?hx_u10 ?k1_u10 ?k2_u10 ?k3_u10 ?k4_u10 ?_; (case F_u10 => k_asm); (case X_u10 => k_asm); (case N_u10 => k_asm); (case p_u10 => tb_rel); (case nd_u10 => first | assumption | (rename News _ _ _ _ => N7_u10; exact nd_of N7_u10 (by tb_rel) (by k_ownIn))); (case hr_u10 => assumption); (case hx_u10 => first | exact rfl | assumption); (case k1_u10 => k_is); (case k2_u10 => k_is); (case k3_u10 => k_is); (case k4_u10 => k_is); k_whole); intro hq_u10 rs1_u10 e1_u10 sx1_u10 ln1_u10 gl1_u10 nd1_u10 hr1_u10 mx1_u10 md1_u10 Fq_u10 Nq_u10; (try (have gl2_u10 := gl1_u10 (by assumption))); (try (have m2_u10 := same_row (by assumption) sx1_u10)); (try (have len2_u10 : List.length rs1_u10 < 100 := (by omega))); (try k_sweep))
  k_with "setItem ref int" => (k_here; (with_reducible show wpAny _ _ (setItem (Value.ref _) (Value.int _ _) Value.none) _ _ _); k_dflt (refine' par_put (o := none) ?F8 ?N8 ?p8 ?nd8 ?P8 ?z8 ?a8 ?b8 (fun _ => rfl) (fun _ e => nomatch e) ?_; (case F8 => k_asm); (case N8 => k_asm); (case P8 => assumption); (case p8 => tb_start); (case nd8 => rename News _ _ _ _ => N7; exact nd_of N7 (by tb_start) (by k_ownIn)); (case z8 => assumption); (case a8 => omega); (case b8 => omega); k_whole); intro h8 vs8 ps8 eps8 pv8 lps8 en8 nd8 F8 N8; (have lz8 : List.length ps8 < 100 := by omega))
  k_with "setItem ref int" => (k_here; (with_reducible show wpAny _ _ (setItem (Value.ref _) (Value.int _ _) (Value.int _ _)) _ _ _); (have gk7 := goal_ok (n := n) (p := 0 + (i9 : Int)) (by omega) (by omega) (by assumption) (by assumption)); k_dflt (refine' par_put (o := some (Int.toNat _)) ?F7 ?N7 ?p7 ?nd7 ?P7 ?z7 ?a7 ?b7 (fun e => nomatch e) (fun g e => ⟨_, by cases e; rw [Int.toNat_of_nonneg gk7.1]⟩) ?_; (case F7 => k_asm); (case N7 => k_asm); (case P7 => assumption); (case p7 => tb_start); (case nd7 => rename News _ _ _ _ => N7; exact nd_of N7 (by tb_start) (by k_ownIn)); (case z7 => assumption); (case a7 => omega); (case b7 => omega); k_whole); intro h7 vs7 ps7 eps7 pv7 lps7 en7 nd7 F7 N7; (have lz7 : List.length ps7 < 100 := by omega); (have ok7 : OkP ps7 := by (rw [eps7]; exact ok9.set (by omega) (fun g e => by cases e; omega))))
  all_goals try k_fold
  k_steps
  · rename _ ↔ Ends _ _ => hE9
    rename _ = true => hb9
    have he9 := hE9.mp hb9
    rename rs9[_]? = some _ => hr9
    rename News _ _ _ _ => NZ
    rename ND (rowsLed _ _ ++ _) => ndZ
    subst_vars
    have NZ2 := nperm (perm_b1 _ _) NZ
    have ndZ2 := ND.perm (perm_b1 _ _) ndZ
    simp only [List.set_set] at NZ2 ndZ2
    exact ForW.go (SB.mk (rs9.set _ _) (List.set ps9 _ _) _ _ _ _) (fr_swap (by decide +kernel) (by k_asm)) NZ2 ndZ2.head (hP9.bindI hi0 (by omega) gk7 (by dsimp only; omega) (by assumption) pv7 he9 hr9 rfl rfl rfl rfl rfl ndZ2.tail)
  · rename News _ _ _ _ => NZ
    rw [eps8, eps7, par_back en9 (by rw [hi0]; omega)] at pv8
    have NZ2 := nperm (perm_b2 _) NZ
    have ndZ2 := ND.perm (perm_b2 _) nd8
    exact ForW.go (SB.mk rs9 ps9 _ _ _ _) (fr_swap (by decide +kernel) (by k_asm)) NZ2 ndZ2.head (hP9.keep (by assumption) pv8 ndZ2.tail)
  · rename News _ _ _ _ => NZ
    rename ND ((pen, _) :: _) => ndZ
    have NZ2 := nperm (perm_b3 _) NZ
    have ndZ2 := ND.perm (perm_b3 _) ndZ
    exact ForW.go (SB.mk rs9 ps9 _ _ _ _) (by k_asm) NZ2 ndZ2.head (hP9.keep (PNok.mono (by assumption) (by omega)) pv9 ndZ2.tail)
  · rename News _ _ _ _ => NZ
    rename ND ((pen, _) :: _) => ndZ
    have NZ2 := nperm (perm_b3 _) NZ
    have ndZ2 := ND.perm (perm_b3 _) ndZ
    exact ForW.go (SB.mk rs9 ps9 _ _ _ _) (by k_asm) NZ2 ndZ2.head (hP9.keep (PNok.mono (by assumption) (by omega)) pv9 ndZ2.tail)
end
set_option maxHeartbeats 2000000 in
theorem new_anchor (w : World) (mean : ExcName → Option Value) (mg mb : Str → Option Value) (h₀ : Heap) (fa cc L : Addr) (s : Shared) (Q : Value → Shared → Prop) (E : Value → Shared → Prop) (m : Str → Option Value) (x y : Int) (t t' : Tok) (led : Led) (B : Below callerA h₀ [] h₀) (X : Frag.In (KK w.params) h₀) (T : Top VV (looseW VV []) mean mg mb h₀) (F : Fr h₀ L s.heap m) (N : News h₀ L s.heap led)
    (hret : ∀ (ext : Led) (a : Addr) h' tk', IsAnchor w.params ext a x y → (ND led → ND (ext ++ led)) → Fr h₀ L h' m → News h₀ L h' (ext ++ led) → Q (.ref a) { s with heap := h', toks := tk' }) :
    wpAny (model PySem.Challenge.rw_nz0117_01.row.prog w) (callerA.deeper (envOfC lawD.name lawD.scope L fa (Value.ref cc))) (call (.ref 45) [.int x t, .int y t']) Q E s := by
  k_with_none
  k_steps
  refine' hret [_, _] _ _ _ ?p91 (fun nd => ?p92) (by k_asm) (by k_asm)
  case p91 => (refine' ⟨_, _, _, _, _, ?a91, ?a92⟩; (case a91 => k_mem); (case a92 => k_mem))
  case p92 =>
    show ND (_ :: _ :: led)
    k_ownIn
set_option maxHeartbeats 2000000 in
theorem new_cls (w : World) (mean : ExcName → Option Value) (mg mb : Str → Option Value) (h₀ : Heap) (fa cc L : Addr) (s : Shared) (Q : Value → Shared → Prop) (E : Value → Shared → Prop) (m : Str → Option Value) (cm : Addr) (led : Led) (B : Below callerA h₀ [] h₀) (X : Frag.In (KK w.params) h₀) (T : Top VV (looseW VV []) mean mg mb h₀) (F : Fr h₀ L s.heap m) (N : News h₀ L s.heap led)
    (hret : ∀ (ext : Led) (a : Addr) h' tk', IsCls w.params ext a cm → (ND led → ND (ext ++ led)) → Fr h₀ L h' m → News h₀ L h' (ext ++ led) → Q (.ref a) { s with heap := h', toks := tk' }) :
    wpAny (model PySem.Challenge.rw_nz0117_01.row.prog w) (callerA.deeper (envOfC lawD.name lawD.scope L fa (Value.ref cc))) (call (.ref 478) [.ref cm]) Q E s := by
  k_with_none
  k_steps
  refine' hret [_, _] _ _ _ ?p91 (fun nd => ?p92) (by k_asm) (by k_asm)
  case p91 => (refine' ⟨_, _, ?a91, ?a92⟩; (case a91 => k_mem); (case a92 => k_mem))
  case p92 =>
    show ND (_ :: _ :: led)
    k_ownIn
set_option maxHeartbeats 2000000 in
theorem new_gdef (w : World) (mean : ExcName → Option Value) (mg mb : Str → Option Value) (h₀ : Heap) (fa cc L : Addr) (s : Shared) (Q : Value → Shared → Prop) (E : Value → Shared → Prop) (m : Str → Option Value) (cd at_ st : Addr) (led : Led) (B : Below callerA h₀ [] h₀) (X : Frag.In (KK w.params) h₀) (T : Top VV (looseW VV []) mean mg mb h₀) (F : Fr h₀ L s.heap m) (N : News h₀ L s.heap led)
    (hret : ∀ (ext : Led) (a : Addr) h' tk', IsGdef w.params ext a cd → (ND led → ND (ext ++ led)) → Fr h₀ L h' m → News h₀ L h' (ext ++ led) → Q (.ref a) { s with heap := h', toks := tk' }) :
    wpAny (model PySem.Challenge.rw_nz0117_01.row.prog w) (callerA.deeper (envOfC lawD.name lawD.scope L fa (Value.ref cc))) (call (.ref 526) [.ref cd, .ref at_, .ref st]) Q E s := by
  k_with_none
  k_steps
  refine' hret [_, _, _, _] _ _ _ ?p91 (fun nd => ?p92) (by k_asm) (by k_asm)
  case p91 => (refine' ⟨_, _, _, _, _, _, _, _, _, _, ?a91, ?a92⟩; (case a91 => k_mem); (case a92 => k_mem))
  case p92 =>
    show ND (_ :: _ :: _ :: _ :: led)
    k_ownIn
set_option maxHeartbeats 2000000 in
theorem new_tabB (w : World) (mean : ExcName → Option Value) (mg mb : Str → Option Value) (h₀ : Heap) (fa cc L : Addr) (s : Shared) (Q : Value → Shared → Prop) (E : Value → Shared → Prop) (m : Str → Option Value) (mk bs : Addr) (led : Led) (B : Below callerA h₀ [] h₀) (X : Frag.In (KK w.params) h₀) (T : Top VV (looseW VV []) mean mg mb h₀) (F : Fr h₀ L s.heap m) (N : News h₀ L s.heap led)
    (hret : ∀ (ext : Led) (a : Addr) h' tk', IsTabB w.params ext a mk bs → (ND led → ND (ext ++ led)) → Fr h₀ L h' m → News h₀ L h' (ext ++ led) → Q (.ref a) { s with heap := h', toks := tk' }) :
    wpAny (model PySem.Challenge.rw_nz0117_01.row.prog w) (callerA.deeper (envOfC lawD.name lawD.scope L fa (Value.ref cc))) (call (.ref 312) [.ref mk, .ref bs]) Q E s := by
  k_with_none
  k_steps
  refine' hret [_, _] _ _ _ ?p91 (fun nd => ?p92) (by k_asm) (by k_asm)
  case p91 => (refine' ⟨_, _, _, ?a91, ?a92⟩; (case a91 => k_mem); (case a92 => k_mem))
  case p92 =>
    show ND (_ :: _ :: led)
    k_ownIn
set_option maxHeartbeats 2000000 in
theorem new_tabM (w : World) (mean : ExcName → Option Value) (mg mb : Str → Option Value) (h₀ : Heap) (fa cc L : Addr) (s : Shared) (Q : Value → Shared → Prop) (E : Value → Shared → Prop) (m : Str → Option Value) (mk bs : Addr) (led : Led) (B : Below callerA h₀ [] h₀) (X : Frag.In (KK w.params) h₀) (T : Top VV (looseW VV []) mean mg mb h₀) (F : Fr h₀ L s.heap m) (N : News h₀ L s.heap led)
    (hret : ∀ (ext : Led) (a : Addr) h' tk', IsTabM w.params ext a mk bs → (ND led → ND (ext ++ led)) → Fr h₀ L h' m → News h₀ L h' (ext ++ led) → Q (.ref a) { s with heap := h', toks := tk' }) :
    wpAny (model PySem.Challenge.rw_nz0117_01.row.prog w) (callerA.deeper (envOfC lawD.name lawD.scope L fa (Value.ref cc))) (call (.ref 340) [.ref mk, .ref bs]) Q E s := by
  k_with_none
  k_steps
  refine' hret [_, _] _ _ _ ?p91 (fun nd => ?p92) (by k_asm) (by k_asm)
  case p91 => (refine' ⟨_, _, _, ?a91, ?a92⟩; (case a91 => k_mem); (case a92 => k_mem))
  case p92 =>
    show ND (_ :: _ :: led)
    k_ownIn
set_option maxHeartbeats 2000000 in
theorem new_buf (w : World) (mean : ExcName → Option Value) (mg mb : Str → Option Value) (h₀ : Heap) (fa cc L : Addr) (s : Shared) (Q : Value → Shared → Prop) (E : Value → Shared → Prop) (m : Str → Option Value) (row : Addr) (led : Led) (B : Below callerA h₀ [] h₀) (X : Frag.In (KK w.params) h₀) (T : Top VV (looseW VV []) mean mg mb h₀) (F : Fr h₀ L s.heap m) (N : News h₀ L s.heap led)
    (hret : ∀ (ext : Led) (a : Addr) h' tk', IsBuf w.params ext a row → (ND led → ND (ext ++ led)) → Fr h₀ L h' m → News h₀ L h' (ext ++ led) → Q (.ref a) { s with heap := h', toks := tk' }) :
    wpAny (model PySem.Challenge.rw_nz0117_01.row.prog w) (callerA.deeper (envOfC lawD.name lawD.scope L fa (Value.ref cc))) (call (.ref 228) [.ref row]) Q E s := by
  k_with_none
  k_steps
  refine' hret [_, _] _ _ _ ?p91 (fun nd => ?p92) (by k_asm) (by k_asm)
  case p91 => (refine' ⟨_, _, _, _, _, _, _, ?a91, ?a92⟩; (case a91 => k_mem); (case a92 => k_mem))
  case p92 =>
    show ND (_ :: _ :: led)
    k_ownIn
set_option maxHeartbeats 2000000 in
theorem new_lookup (w : World) (mean : ExcName → Option Value) (mg mb : Str → Option Value) (h₀ : Heap) (fa cc L : Addr) (s : Shared) (Q : Value → Shared → Prop) (E : Value → Shared → Prop) (m : Str → Option Value) (kd : Str) (tabs : Addr) (t t' t'' : Tok) (led : Led) (B : Below callerA h₀ [] h₀) (X : Frag.In (KK w.params) h₀) (T : Top VV (looseW VV []) mean mg mb h₀) (F : Fr h₀ L s.heap m) (N : News h₀ L s.heap led)
    (hret : ∀ (ext : Led) (a : Addr) h' tk', IsLookup w.params ext a kd 0 tabs → (ND led → ND (ext ++ led)) → Fr h₀ L h' m → News h₀ L h' (ext ++ led) → Q (.ref a) { s with heap := h', toks := tk' }) :
    wpAny (model PySem.Challenge.rw_nz0117_01.row.prog w) (callerA.deeper (envOfC lawD.name lawD.scope L fa (Value.ref cc))) (call (.ref 90) [.str kd t, .int 0 t', .int 0 t'', .ref tabs]) Q E s := by
  k_with_none
  k_steps
  refine' hret [_, _] _ _ _ ?p91 (fun nd => ?p92) (by k_asm) (by k_asm)
  case p91 => (refine' ⟨_, _, _, _, _, _, _, _, ?a91, ?a92⟩; (case a91 => k_mem); (case a92 => k_mem))
  case p92 =>
    show ND (_ :: _ :: led)
    k_ownIn
set_option maxHeartbeats 2000000 in
theorem new_scene (w : World) (mean : ExcName → Option Value) (mg mb : Str → Option Value) (h₀ : Heap) (fa cc L : Addr) (s : Shared) (Q : Value → Shared → Prop) (E : Value → Shared → Prop) (m : Str → Option Value) (buf gd lks lk : Addr) (t : Tok) (led : Led) (B : Below callerA h₀ [] h₀) (X : Frag.In (KK w.params) h₀) (T : Top VV (looseW VV []) mean mg mb h₀) (F : Fr h₀ L s.heap m) (N : News h₀ L s.heap led)
    (hret : ∀ (ext : Led) (a : Addr) h' tk', IsScene w.params ext a buf gd lks lk → (ND led → ND (ext ++ led)) → Fr h₀ L h' m → News h₀ L h' (ext ++ led) → Q (.ref a) { s with heap := h', toks := tk' }) :
    wpAny (model PySem.Challenge.rw_nz0117_01.row.prog w) (callerA.deeper (envOfC lawD.name lawD.scope L fa (Value.ref cc))) (call (.ref 112) [.ref buf, .ref gd, .ref lks, .ref lk, .int 1 t]) Q E s := by
  k_with_none
  k_steps
  refine' hret [_, _, _] _ _ _ ?p91 (fun nd => ?p92) (by k_asm) (by k_asm)
  case p91 => (refine' ⟨_, _, _, _, _, _, _, _, _, _, _, ?a91, ?a92⟩; (case a91 => k_mem); (case a92 => k_mem))
  case p92 =>
    show ND (_ :: _ :: _ :: led)
    k_ownIn
def datO (o : Option Nat) : PyData := match o with | none => .none | some g => .int (g : Int)
def parD (ps : Par) : List PyData := ps.map datO
theorem carried_par : ∀ (ps : Par) (vs : List Value), vs.length = ps.length → (∀ (i : Nat) (v : Value) (o : Option Nat), vs[i]? = some v → ps[i]? = some o → Carried v (datO o)) → CarriedAll vs (parD ps)
  | [], [], _, _ => .nil
  | [], _ :: _, h, _ => nomatch h
  | _ :: _, [], h, _ => nomatch h
  | o :: ps, v :: vs, h, k => .cons (k 0 v o rfl rfl) (carried_par ps vs (Nat.succ.inj h) fun i v' o' hv ho => k (i + 1) v' o' hv ho)
theorem PVs.carried {vs : List Value} {ps : Par} (h : PVs vs ps) : CarriedAll vs (parD ps) := carried_par ps vs h.len fun i v o hv ho => by
  have hi := (List.getElem?_eq_some_iff.mp ho).1
  have hn : nxt ps i = o := by unfold nxt; rw [ho]
  cases o with
  | none =>
    have := h.no i hi hn
    rw [this] at hv; cases hv
    exact .none
  | some g =>
    obtain ⟨t, e⟩ := h.yes i g hi hn
    rw [e] at hv; cases hv
    exact .int _ t
theorem parD_can : ∀ ps : Par, PyData.canLayAll0 (parD ps) = true
  | [] => rfl
  | none :: r => by simp [parD, datO, PyData.canLayAll0, PyData.canLay0, show PyData.canLayAll0 (List.map datO r) = true from parD_can r]
  | some g :: r => by simp [parD, datO, PyData.canLayAll0, PyData.canLay0, show PyData.canLayAll0 (List.map datO r) = true from parD_can r]
theorem parD_depth : ∀ ps : Par, PyData.depthAll (parD ps) = 0
  | [] => rfl
  | none :: r => by simp [parD, datO, PyData.depthAll, PyData.depth, show PyData.depthAll (List.map datO r) = 0 from parD_depth r]
  | some g :: r => by simp [parD, datO, PyData.depthAll, PyData.depth, show PyData.depthAll (List.map datO r) = 0 from parD_depth r]
theorem parD_eqv : ∀ ps : Par, PyData.eqvAll (parD ps) (parD ps) = true
  | [] => by simp [parD, PyData.eqvAll]
  | none :: r => by simp [parD, datO, PyData.eqvAll, PyData.eqv, show PyData.eqvAll (List.map datO r) (List.map datO r) = true from parD_eqv r]
  | some g :: r => by simp [parD, datO, PyData.eqvAll, PyData.eqv, show PyData.eqvAll (List.map datO r) (List.map datO r) = true from parD_eqv r]
theorem parD_shaped (ps : Par) : SeqAt.shaped (.list (parD ps)) = true := by
  simp [SeqAt.shaped, PyData.canLay0, PyData.depth, parD_can, parD_depth]
section
variable {prog : Program} {w : World} {A : Around} {E : Value → Shared → Prop} {s : Shared} {h₀ : Heap} {L a b : Addr} {cur : Led} {vs1 vs2 : List Value} {ps : Par} {n1 n2 : Nat}
theorem ne_par {Q : Value → Shared → Prop} (N : News h₀ L s.heap cur) (ha : (a, listOf vs1.toArray n1) ∈ cur) (hb : (b, listOf vs2.toArray n2) ∈ cur) (P1 : PVs vs1 ps) (P2 : PVs vs2 ps) (hu : A.units + 64 < cLine) (h : Q (.bool false) s) :
    wpAny (model prog w) A (compareOp .NotEq (.ref a) (.ref b)) Q E s :=
  ne_dataH (reads_newData (News.isList N ha) P1.carried) (reads_newData (News.isList N hb) P2.carried) (parD_shaped ps) (parD_shaped ps) hu (by
    have e : PyData.eqv (.list (parD ps)) (.list (parD ps)) = true := by rw [PyData.eqv]; exact parD_eqv ps
    rw [e]; exact h)
theorem ne_nil {Q : Value → Shared → Prop} (N : News h₀ L s.heap cur) (ha : (a, listOf #[] n1) ∈ cur) (hb : (b, listOf #[] n2) ∈ cur) (hu : A.units + 64 < cLine) (h : Q (.bool false) s) :
    wpAny (model prog w) A (compareOp .NotEq (.ref a) (.ref b)) Q E s :=
  ne_par (vs1 := []) (vs2 := []) (ps := []) N ha hb ⟨rfl, fun i hi => absurd hi (Nat.not_lt_zero _), fun i _ hi => absurd hi (Nat.not_lt_zero _)⟩ ⟨rfl, fun i hi => absurd hi (Nat.not_lt_zero _), fun i _ hi => absurd hi (Nat.not_lt_zero _)⟩ hu h
theorem eq_zeros {Q : Value → Shared → Prop} {ns ms : List Int} (N : News h₀ L s.heap cur) (ha : (a, listOf vs1.toArray n1) ∈ cur) (hb : (b, listOf vs2.toArray n2) ∈ cur) (h1 : IntsAre vs1 ns) (h2 : IntsAre vs2 ms) (e : ns = ms) (hu : A.units + 64 < cLine) (h : Q (.bool true) s) :
    wpAny (model prog w) A (compareOp .Eq (.ref a) (.ref b)) Q E s :=
  ke_eq_ints (News.isList N ha) (News.isList N hb) h1 h2 hu (by rw [decide_eq_true e]; exact h)
end
/-- the parents as they stand in the infos, up to a place -/
structure Pre (ps : Par) (i : Nat) (ys : List Value) : Prop where
  len : ys.length = i
  no : ∀ j, j < i → nxt ps j = none → ys[j]? = some .none
  yes : ∀ j g, j < i → nxt ps j = some g → ∃ t, ys[j]? = some (.int (g : Int) t)
theorem Pre.nil (ps : Par) : Pre ps 0 [] := ⟨rfl, fun _ h => absurd h (Nat.not_lt_zero _), fun _ _ h => absurd h (Nat.not_lt_zero _)⟩
theorem Pre.next {ps : Par} {i : Nat} {ys : List Value} {y : Value} (h : Pre ps i ys) (h0 : nxt ps i = none → y = .none) (h1 : ∀ g, nxt ps i = some g → ∃ t, y = .int (g : Int) t) : Pre ps (i + 1) (ys ++ [y]) := by
  have hl := h.len
  refine ⟨by rw [List.length_append, hl]; rfl, fun j hj e => ?_, fun j g hj e => ?_⟩
  · by_cases q : j < i
    · rw [List.getElem?_append_left (by omega)]; exact h.no j q e
    · have : j = i := by omega
      subst this
      rw [List.getElem?_append_right (by omega), hl, Nat.sub_self, h0 e]; rfl
  · by_cases q : j < i
    · rw [List.getElem?_append_left (by omega)]; exact h.yes j g q e
    · have : j = i := by omega
      subst this
      obtain ⟨t, rfl⟩ := h1 g e
      exact ⟨t, by rw [List.getElem?_append_right (by omega), hl, Nat.sub_self]; rfl⟩
theorem Pre.pv {ps : Par} {ys : List Value} (h : Pre ps ps.length ys) : PVs ys ps := ⟨h.len, h.no, h.yes⟩
/-- the element's two ways -/
theorem Pre.zero {rs : List IR} {ps : Par} {i : Nat} {ys : List Value} {r : IR} (hR : RelP rs ps) (h : Pre ps i ys) (hr : rs[i]? = some r) (e : r.parent = 0) : Pre ps (i + 1) (ys ++ [Value.none]) := by
  have hn : nxt ps i = none := off_zero hR.ok ((hR.val i r hr).symm.trans e)
  exact h.next (fun _ => rfl) fun g q => by rw [hn] at q; cases q
theorem Pre.some {rs : List IR} {ps : Par} {i : Nat} {ys : List Value} {r : IR} {t : Tok} (hR : RelP rs ps) (h : Pre ps i ys) (hr : rs[i]? = some r) (e : r.parent ≠ 0) : Pre ps (i + 1) (ys ++ [Value.int ((i : Int) + r.parent) t]) := by
  have hv := hR.val i r hr
  obtain ⟨g, hg, hg2⟩ := off_some (ps := ps) (i := i) (by rw [← hv]; exact e)
  refine h.next (fun q => by rw [hg] at q; cases q) fun g' q => ?_
  rw [hg] at q; cases q
  exact ⟨t, by rw [hv, hg2, show (i : Int) + ((g : Int) - (i : Int)) = (g : Int) by omega]⟩
/-! a comprehension whose test never holds -/
def NoW (h₀ : Heap) (L : Addr) (m : Str → Option Value) (s₁ : Shared) (led : Led) (ok : Bool) (s₂ : Shared) : Prop := ok = false ∧ ∃ h' tk, s₂ = { s₁ with heap := h', toks := tk } ∧ Fr h₀ L h' m ∧ News h₀ L h' led
section
variable {prog : Program} {w : World} {A : Around} {E : Value → Shared → Prop} {s : Shared} {h₀ : Heap} {L : Addr} {m : Str → Option Value} {env : Env} {news : Led}
theorem NoW.go {h' : Heap} {tk : Nat} {led : Led} (F : Fr h₀ L h' m) (N : News h₀ L h' led) : NoW h₀ L m s led false { s with heap := h', toks := tk } := ⟨rfl, h', tk, rfl, F, N⟩
theorem nd_three {I C D : Addr} {oI oC oD : Obj} (nd : ND news) (off : LCg.Off3 I C D news) (ne : (@Ne Nat I C) ∧ (@Ne Nat I D) ∧ (@Ne Nat C D)) : ND ((I, oI) :: (C, oC) :: (D, oD) :: news) := by
  have o := off.mem
  refine ND.ne (fun p hp => ?_) (ND.ne (fun p hp => ?_) (ND.ne (fun p hp => (o p hp).2.2) nd))
  · rcases List.mem_cons.mp hp with rfl | hp
    · exact Ne.symm ne.1
    · rcases List.mem_cons.mp hp with rfl | hp
      · exact Ne.symm ne.2.1
      · exact (o p hp).1
  · rcases List.mem_cons.mp hp with rfl | hp
    · exact Ne.symm ne.2.2
    · exact (o p hp).2.1
theorem comp_none {ct elt : PySem.Expr} {x : Str} {scope : Scope} {cl : List (Str × Addr)} {Fin : Shared → List Value → Led → Prop} {r : Addr} {a b : Int} {t u v : Tok} {n : Nat}
    (hh : A.handled = none) (F : Fr h₀ L s.heap m) (N : News h₀ L s.heap news) (nd : ND news) (hr : IsRange s.heap r a b 1 t u v) (hsm : Builtin.Range.small a b 1 = true) (hn : Builtin.Range.rangeSize a b 1 = ((n : Nat) : Int)) (hz : n < 100)
    (turn : ∀ (i : Nat) t I oI C oC D m₂ h tk E', i < n → LCg.NsObj oC m₂ → m₂ x = some (.int (a + (i : Int)) t) → Fr h₀ L h m → News h₀ L h ((I, oI) :: (C, oC) :: (D, LCg.lst []) :: news) → ND ((I, oI) :: (C, oC) :: (D, LCg.lst []) :: news) →
      wpAny (model prog w) A (isTrue ct (compEnvC scope cl C env) (eval ct (compEnvC scope cl C env))) (NoW h₀ L m s ((I, oI) :: (C, oC) :: (D, LCg.lst []) :: news)) E' { s with heap := h, toks := tk })
    (fin : ∀ g, Fin { s with heap := g } [] news) : LCt.CompSrcT prog w A h₀ L m env ct elt x scope cl Fin (.ref r) s := by
  refine LCt.CompSrcT.range hh F N hr hsm hn (by rw [sizeLine_eq]; omega) fun g => ?_
  have key : ∀ k i, k + i = n → LCt.CompRestT prog w A h₀ L m env ct elt x scope cl { s with heap := g } (fun _ => True) (fun i v => ∃ t, v = .int (a + (i : Int)) t) (Fin { s with heap := g }) k i [] news := by
    intro k
    induction k with
    | zero => intro i _; exact LCt.CompRestT.zero (fin g)
    | succ k ih =>
      intro i hi
      refine LCt.CompRestT.succ fun v I oI C oC D m₂ h tk E' hv hC hx F' N' off ne => ?_
      obtain ⟨t', rfl⟩ := hv
      refine wpAny_mono (turn i t' I oI C oC D m₂ h tk E' (by omega) hC hx F' N' (nd_three nd off ne)) (fun ok s' q => ?_) fun _ _ e => e
      obtain ⟨rfl, h', tk', rfl, F'', N''⟩ := q
      rw [if_neg (by decide)]
      exact ⟨h', tk', news, rfl, F'', N'', off, trivial, ih (i + 1) (by omega)⟩
  exact key n 0 (by omega)
end
section
local macro_rules | `(tactic| walk_at "eval ListComp") => `(tactic| k_extra "eval ListComp")
local macro_rules | `(tactic| walk_at "EnSrc") => `(tactic| k_extra "EnSrc")
local macro_rules | `(tactic| walk_at "CompSrcT") => `(tactic| k_extra "CompSrcT")
local macro_rules | `(tactic| walk_at "call type:enumerate") => `(tactic| k_extra "call type:enumerate")
local macro_rules | `(tactic| walk_at "compareOp NotEq ref ref") => `(tactic| k_extra "compareOp NotEq ref ref")
set_option maxHeartbeats 1000000 in
theorem rest_D (w : World) (mean : ExcName → Option Value) (mg mb : Str → Option Value) (h₀ : Heap) (fa cc L : Addr) (s : Shared) (Q : Flow → Shared → Prop) (E : Value → Shared → Prop) (mx : Str → Option Value) (B : Below callerA h₀ [] h₀) (X : Frag.In (KK w.params) h₀) (T : Top VV (looseW VV []) mean mg mb h₀)
    {n : Int} {tn : Tok} {pl buf il I9 : Addr} {oc oI9 : Obj} {R : Led} {rs0 rs : List IR} {ps : Par} {vs : List Value} {ep tk9 : Nat} {hh9 : Heap}
    (hoc : oc.data = .cell (some (.ref pl))) (hcm : (L + 1, oc) ∈ R) (hbuf : IsBuf w.params R buf il) (hrow : IsRow R il rs0) (h1 : 1 ≤ n) (h7 : n ≤ 7) (hl : rs0.length = n.toNat) (hC : OkC rs0 rs ps) (hv : PVs vs ps)
    (nd : ND ((pl, listOf vs.toArray ep) :: (I9, oI9) :: (rowsLed w.params rs ++ R)))
    (F9 : Fr h₀ L hh9 (fun y => if y = Str.ofString "buffer" then some (.ref buf) else if y = Str.ofString "count" then some (.int n tn) else mx y))
    (N9 : News h₀ L hh9 ((pl, listOf vs.toArray ep) :: (I9, oI9) :: (rowsLed w.params rs ++ R)))
    (hret : ∀ h' tk', Fr h₀ L h' (fun y => if y = Str.ofString "buffer" then some (.ref buf) else if y = Str.ofString "count" then some (.int n tn) else mx y) → News h₀ L h' ((pl, listOf vs.toArray ep) :: (I9, oI9) :: (rowsLed w.params rs ++ R)) → Q .next { s with heap := h', toks := tk' }) :
    wpAny (model PySem.Challenge.rw_nz0117_01.row.prog w) (callerA.deeper (envOfC lawD.name lawD.scope L fa (Value.ref cc))) (execs (List.drop 2 (lawFor 13)) (envOfC lawD.name lawD.scope L fa (Value.ref cc))) Q E { s with heap := hh9, toks := tk9 } := by
  obtain ⟨ep0, m5⟩ := hrow
  obtain ⟨bd, q0, q1, q2, u2, q3, u3, m3, m4⟩ := hbuf
  have sx := hC.sx
  have hlr := sx.len
  have hlp := hC.rel.len
  have hok := hC.rel.ok
  have hall := hC.all
  have hzr : rs0.length < 100 := by omega
  have hzp : List.length ps < 100 := by omega
  k_with_none
  k_with "call ref" => (k_here; (with_reducible show wpAny _ _ (call (Value.ref 549) _) _ _ _); k_dflt (refine' use_spec (ends_i _ _ _ _ _ _ _ _ ?h1_u25 ?h2_u25 ?h3_u25 ?h4_u25 ?h5_u25 ?h6_u25 ?h7_u25) ?p0_u25 ?B0_u25 ?F0_u25 ?X0_u25 ?N0_u25 ?T0_u25 ?k0_u25 ?d0_u25 ?u0_u25 ?_; (case B0_u25 => k_asm); (case F0_u25 => k_asm); (case X0_u25 => k_asm); (case N0_u25 => k_asm); (case T0_u25 => k_asm); (case k0_u25 => first | exact rfl | assumption); (case p0_u25 => exact List.Perm.refl _); (case h2_u25 => k_mem); (case h3_u25 => assumption); (case h1_u25 => first | assumption | (rename News _ _ _ _ => N7_u25; exact nd_of N7_u25 (by tb_rel) (by k_ownIn))); (case h4_u25 => assumption); (case h5_u25 => assumption); (case h6_u25 => first | assumption | omega); (case h7_u25 => first | assumption | omega); (case d0_u25 => ktr_room); (case u0_u25 => ktr_units); k_whole); intro r9_u25 n9_u25 h9_u25 t9_u25 P9_u25 F9_u25 N9_u25; obtain ⟨e9_u25, b8_u25, e8_u25, i8_u25⟩ := P9_u25; subst n9_u25; subst e8_u25; (try k_sweep); (try dsimp only); (try k_fold))
  k_with "eval ListComp" => (k_here; lcg_calm; k_dflt (refine en_ListComp (by k_asm) (by with_unfolding_all rfl) (by decide) (by rfl) (by decide) (by rfl) (by rfl) (by decide +kernel) ?_))
  k_with "eval ListComp" => (k_here; lct_look; lcg_calm; k_dflt (refine LCt.ListComp_T (F₀ := by k_asm) (by with_unfolding_all rfl) (by decide) (by rfl) (by decide) (by rfl) ?_))
  k_with "call type:enumerate" => (k_here; k_dflt (refine' call_enum ?F6 ?N6 ?m6 ?_; (case F6 => k_asm); (case N6 => k_asm); (case m6 => k_mem); k_whole); intro e6 it6 h6 F6 N6 K6)
  k_with "EnSrc" => (
    (rename Fr _ _ _ _ => lF'); (rename News _ _ _ _ => lN');
    (k_dflt (refine' EnSrc.of (Pre ps) (by rfl) lF' lN' ?m85 ?z85 K6 (Pre.nil ps) ?turn85 ?fin85)); (case m85 => k_mem); (case z85 => rw [rowOf_len]; exact hzr);
    (case' turn85 => (rintro i8 ys8 v8 t8 oE8 oI8 C8 oC8 D8 m8 hh8 tk8 E8 hv8 hJ8 hC8 ha8 hb8 F8 N8; obtain ⟨r8, hr8, e8⟩ := row_elem hv8 seg_all sx; subst e8; rw [Nat.zero_add] at hr8; (have mx8 := rows_x (P := w.params) (List.mem_of_getElem? hr8)); (have md8 := rows_d (P := w.params) (List.mem_of_getElem? hr8)); clear lF' lN'));
    (case' fin85 => (rintro ys8 hJ8; rw [rowOf_len, ← hlr, hlp] at hJ8; (have pv8 := hJ8.pv); clear lF' lN')))
  k_with "CompSrcT" => (
    (rename Fr _ _ _ _ => lF'); (rename News _ _ _ _ => lN'); (rename IsRange _ _ _ _ _ _ _ _ => rgX);
    (k_dflt (refine' comp_none (news := (pl, listOf vs.toArray ep) :: (I9, oI9) :: (rowsLed w.params rs ++ R)) (by rfl) lF' (News.sub lN' ?sub86) nd rgX (small_one (by l_bnd) (by l_bnd) (by l_bnd) (by l_bnd)) (rangeSize_nat _ _) ?z86 ?turn86 ?fin86));
    (case sub86 => (intro p9 hp9; first | exact hp9 | exact List.mem_cons_of_mem _ hp9 | exact List.mem_cons_of_mem _ (List.mem_cons_of_mem _ hp9)));
    (case z86 => omega);
    (case' turn86 => (rintro i7 t7 I7 oI7 C7 oC7 D7 m7 hh7 tk7 E7 hi7 hC7 hx7 F7 N7 nd7; clear lF' lN'));
    (case' fin86 => (intro g7; clear lF' lN')))
  k_with "compareOp NotEq ref ref" => (k_here; k_dflt (refine' ne_nil ?N57 ?a57 ?b57 ?u57 ?_; (case N57 => k_asm); (case a57 => k_mem); (case b57 => k_mem); (case u57 => ke_room); k_whole))
  k_with "compareOp NotEq ref ref" => (k_here; k_dflt (refine' ne_par ?N56 ?a56 ?b56 pv8 hv ?u56 ?_; (case N56 => k_asm); (case a56 => k_mem); (case b56 => k_mem); (case u56 => ke_room); k_whole))
  all_goals try k_fold
  k_steps
  · rename News _ _ _ _ => NZ
    exact hret _ _ (by k_asm) (News.sub NZ (fun p hp => by first | exact hp | exact List.mem_cons_of_mem _ hp | exact List.mem_cons_of_mem _ (List.mem_cons_of_mem _ hp) | exact List.mem_cons_of_mem _ (List.mem_cons_of_mem _ (List.mem_cons_of_mem _ hp))))
  · rename _ ↔ Ends ps _ => i9
    have hb9 := i9.mpr (hall _)
    subst hb9
    exact NoW.go (by k_asm) (by k_asm)
  · exact CmpW.go (by k_asm) (by k_asm) (Pre.zero hC.rel hJ8 hr8 (by assumption))
  · exact CmpW.go (by k_asm) (by k_asm) (Pre.some hC.rel hJ8 hr8 (by assumption))
end
noncomputable def lawHeard : PySem.Expr := match lawFor 13 with | .Assign _ e _ :: _ => e | _ => .Constant .none 0 ⟨0, 0, 0, 0⟩
/-- the tables, as the law draws them -/
structure Tabs (w : World) (R : Led) (wy : Int) (tb mk bs rw : Addr) : Prop where
  or : (wy = 0 ∧ IsTabB w.params R tb mk bs ∧ IsTb w R bs true rw) ∨ (wy = 1 ∧ IsTabM w.params R tb mk bs ∧ IsTb w R bs false rw)
  marks : IsMk w R mk
theorem Sc.at {w : World} {led : Led} {rs rs9 : List IR} {sc buf row gd lks lk tabs : Addr} {kd : Str} {f : Int} (h : Sc w led rs sc buf row gd lks lk tabs kd f) (sx : SameX rs rs9) (g : GL rs9) : Sc w led rs9 sc buf row gd lks lk tabs kd f :=
  ⟨h.scene, h.buf, h.gd, h.lk, h.row.same sx, g, by rw [sx.len]; exact h.len⟩
set_option maxHeartbeats 1000000 in
theorem heard_ok (w : World) (mean : ExcName → Option Value) (mg mb : Str → Option Value) (h₀ : Heap) (fa cc L : Addr) (s : Shared) (Q : Value → Shared → Prop) (E : Value → Shared → Prop) (mx : Str → Option Value) (B : Below callerA h₀ [] h₀) (X : Frag.In (KK w.params) h₀) (T : Top VV (looseW VV []) mean mg mb h₀)
    {n wy : Int} {tn tw u : Tok} {I9 pl sc buf il gd lks lk tabs tb mk bs rw : Addr} {kd : Str} {oI9 lo : Obj} {R : Led} {rs : List IR} {ps : Par} {i : Nat}
    (hS : Sc w R rs sc buf il gd lks lk tabs kd 0) (hT : Tabs w R wy tb mk bs rw) (hRel : RelP rs ps) (ha : i < rs.length)
    (nd : ND ((I9, oI9) :: (pl, lo) :: (rowsLed w.params rs ++ R)))
    (F : Fr h₀ L s.heap (fun y => if y = Str.ofString "at" then some (.int (i : Int) u) else if y = Str.ofString "scene" then some (.ref sc) else if y = Str.ofString "buffer" then some (.ref buf) else if y = Str.ofString "table" then some (.ref tb) else if y = Str.ofString "count" then some (.int n tn) else if y = Str.ofString "way" then some (.int wy tw) else mx y))
    (N : News h₀ L s.heap ((I9, oI9) :: (pl, lo) :: (rowsLed w.params rs ++ R)))
    (hret : ∀ v n9 h' tk', ApR w ((I9, oI9) :: (pl, lo) :: R) ps i rs v n9 → Fr h₀ L h' (fun y => if y = Str.ofString "at" then some (.int (i : Int) u) else if y = Str.ofString "scene" then some (.ref sc) else if y = Str.ofString "buffer" then some (.ref buf) else if y = Str.ofString "table" then some (.ref tb) else if y = Str.ofString "count" then some (.int n tn) else if y = Str.ofString "way" then some (.int wy tw) else mx y) → News h₀ L h' n9 → Q v { s with heap := h', toks := tk' }) :
    wpAny (model PySem.Challenge.rw_nz0117_01.row.prog w) (callerA.deeper (envOfC lawD.name lawD.scope L fa (Value.ref cc))) (eval lawHeard (envOfC lawD.name lawD.scope L fa (Value.ref cc))) Q E s := by
  have sub : ∀ p ∈ R, p ∈ (I9, oI9) :: (pl, lo) :: R := fun p h => List.mem_cons_of_mem _ (List.mem_cons_of_mem _ h)
  have hS9 := hS.mono sub
  have hm9 := hT.marks.mono sub
  k_with_none
  k_with "call ref" => (k_here; (with_reducible show wpAny _ _ (call (Value.ref 400) _) _ _ _); k_dflt (refine' use_spec (apply_mark_ok _ _ _ ?ps9_u21 _ _ _ _ _ _ _ _ _ _ ?rw9_u21 _ _ _ ?h1_u21 ?h2_u21 ?h3_u21 ?h4_u21 ?h5_u21 ?h6_u21 ?h7_u21) ?p0_u21 ?B0_u21 ?F0_u21 ?X0_u21 ?N0_u21 ?T0_u21 ?k0_u21 ?d0_u21 ?u0_u21 ?_; (case B0_u21 => k_asm); (case F0_u21 => k_asm); (case X0_u21 => k_asm); (case N0_u21 => k_asm); (case T0_u21 => k_asm); (case k0_u21 => first | exact rfl | assumption); (case p0_u21 => tb_rel); (case h1_u21 => first | assumption | (rename News _ _ _ _ => N7_u21; exact nd_of N7_u21 (by tb_rel) (by k_ownIn))); (case h2_u21 => assumption); (case h3_u21 => assumption); (case h4_u21 => assumption); (case h5_u21 => assumption); (case h6_u21 => assumption); (case h7_u21 => first | assumption | omega); (case d0_u21 => ktr_room); (case u0_u21 => ktr_units); k_whole); intro r9_u21 n9_u21 h9_u21 t9_u21 P9_u21 F9_u21 N9_u21; skip; (try k_sweep); (try dsimp only); (try k_fold))
  k_with "call ref" => (k_here; (with_reducible show wpAny _ _ (call (Value.ref 386) _) _ _ _); k_dflt (refine' use_spec (apply_base_ok _ _ _ ?ps9_u20 _ _ _ _ _ _ _ _ _ _ ?rw9_u20 _ _ _ _ ?h1_u20 ?h2_u20 ?h3_u20 ?h4_u20 ?h5_u20 ?h6_u20 ?h7_u20) ?p0_u20 ?B0_u20 ?F0_u20 ?X0_u20 ?N0_u20 ?T0_u20 ?k0_u20 ?d0_u20 ?u0_u20 ?_; (case B0_u20 => k_asm); (case F0_u20 => k_asm); (case X0_u20 => k_asm); (case N0_u20 => k_asm); (case T0_u20 => k_asm); (case k0_u20 => first | exact rfl | assumption); (case p0_u20 => tb_rel); (case h1_u20 => first | assumption | (rename News _ _ _ _ => N7_u20; exact nd_of N7_u20 (by tb_rel) (by k_ownIn))); (case h2_u20 => assumption); (case h3_u20 => assumption); (case h4_u20 => assumption); (case h5_u20 => assumption); (case h6_u20 => assumption); (case h7_u20 => first | assumption | omega); (case d0_u20 => ktr_room); (case u0_u20 => ktr_units); k_whole); intro r9_u20 n9_u20 h9_u20 t9_u20 P9_u20 F9_u20 N9_u20; skip; (try k_sweep); (try dsimp only); (try k_fold))
  rcases hT.or with ⟨rfl, ht, hb⟩ | ⟨rfl, ht, hb⟩
  all_goals
    have ht9 := ht.mono sub
    have hb9 := hb.mono sub
    show wpAny _ _ (eval (PySem.Expr.IfExp _ _ _ _) _) _ _ _
    (try k_fold)
    k_steps
    all_goals exact hret _ _ _ _ (by assumption) (by k_asm) (by k_asm)
/-- the state of the main loop -/
structure SD where
  rs : List IR
  ps : Par
  vs : List Value
  ep : Nat
  mx : Str → Option Value
def ldD (P : Params) (pl : Addr) (R : Led) (σ : SD) : Led := (pl, listOf σ.vs.toArray σ.ep) :: (rowsLed P σ.rs ++ R)
structure OkD (P : Params) (rs0 : List IR) (pl : Addr) (R : Led) (σ : SD) : Prop where
  c : OkC rs0 σ.rs σ.ps
  pv : PVs σ.vs σ.ps
  nd : ND (ldD P pl R σ)
def fmD (sc buf tb : Addr) (n wy : Int) (tn tw : Tok) (mx : Str → Option Value) : Str → Option Value := fun y => if y = Str.ofString "scene" then some (.ref sc) else if y = Str.ofString "buffer" then some (.ref buf) else if y = Str.ofString "table" then some (.ref tb) else if y = Str.ofString "count" then some (.int n tn) else if y = Str.ofString "way" then some (.int wy tw) else mx y
/-- the mark's own info, when it is set -/
theorem set_at {a p : Nat} {rs rs1 rs3 : List IR} (hS : SetR a p rs1 rs3) (sx : SameX rs rs3) (ha : a < rs.length) : ∃ r, rs3[((a : Nat) : Int).toNat]? = some r ∧ r.parent = (p : Int) - (a : Int) ∧ r.bond = Str.ofString "mark" := by
  have hl := sx.len
  have hr : rs3[a]? = some rs3[a] := List.getElem?_eq_getElem (by omega)
  exact ⟨_, by simpa using hr, (hS a _ hr).1 rfl⟩
theorem rest_led {P : Params} {rs : List IR} {a b : Addr × Obj} {R : Led} : (a :: b :: (rowsLed P rs ++ R)).Perm (b :: a :: (rowsLed P rs ++ R)) := List.Perm.swap ..
theorem apr_led {P : Params} {rs : List IR} {a b : Addr × Obj} {R : Led} : (rowsLed P rs ++ a :: b :: R).Perm (a :: b :: (rowsLed P rs ++ R)) := List.perm_middle.trans (List.Perm.cons _ List.perm_middle)
theorem fr_D {h₀ h : Heap} {L sc buf tb : Addr} {n wy : Int} {tn tw : Tok} {M : Str → Option Value} {u : Option Value} (F : Fr h₀ L h M) (e0 : M (Str.ofString "at") = u) (e1 : M (Str.ofString "scene") = some (.ref sc)) (e2 : M (Str.ofString "buffer") = some (.ref buf)) (e3 : M (Str.ofString "table") = some (.ref tb)) (e4 : M (Str.ofString "count") = some (.int n tn)) (e5 : M (Str.ofString "way") = some (.int wy tw)) :
    Fr h₀ L h (fun y => if y = Str.ofString "at" then u else fmD sc buf tb n wy tn tw M y) :=
  Fr.own (Fr.cg F fun z => by
    unfold fmD
    by_cases q1 : z = Str.ofString "scene"
    · subst q1; rw [if_pos rfl]; exact e1
    rw [if_neg q1]
    by_cases q2 : z = Str.ofString "buffer"
    · subst q2; rw [if_pos rfl]; exact e2
    rw [if_neg q2]
    by_cases q3 : z = Str.ofString "table"
    · subst q3; rw [if_pos rfl]; exact e3
    rw [if_neg q3]
    by_cases q4 : z = Str.ofString "count"
    · subst q4; rw [if_pos rfl]; exact e4
    rw [if_neg q4]
    by_cases q5 : z = Str.ofString "way"
    · subst q5; rw [if_pos rfl]; exact e5
    rw [if_neg q5]) (by unfold fmD; rw [if_neg (by decide +kernel), if_neg (by decide +kernel), if_neg (by decide +kernel), if_neg (by decide +kernel), if_neg (by decide +kernel)]; exact e0)
/-- the end of a turn -/
theorem end_D {w : World} {h₀ h' : Heap} {L I9 pl sc buf tb : Addr} {n wy : Int} {tn tw : Tok} {s : Shared} {oI9 : Obj} {R : Led} {rs0 rs : List IR} {ps : Par} {vs : List Value} {ep tk : Nat} {m₀ M : Str → Option Value} {u : Option Value} {Q : Flow → Shared → Prop} (hC : OkC rs0 rs ps) (hv : PVs vs ps) (nd : ND ((pl, listOf vs.toArray ep) :: (I9, oI9) :: (rowsLed w.params rs ++ R)))
    (F : Fr h₀ L h' M) (e0 : M (Str.ofString "at") = u) (e1 : M (Str.ofString "scene") = some (.ref sc)) (e2 : M (Str.ofString "buffer") = some (.ref buf)) (e3 : M (Str.ofString "table") = some (.ref tb)) (e4 : M (Str.ofString "count") = some (.int n tn)) (e5 : M (Str.ofString "way") = some (.int wy tw))
    (N : News h₀ L h' ((pl, listOf vs.toArray ep) :: (I9, oI9) :: (rowsLed w.params rs ++ R))) :
    ForW h₀ L s (Str.ofString "at") I9 oI9 m₀ (fun _ σ => fmD sc buf tb n wy tn tw σ.mx) (ldD w.params pl R) (OkD w.params rs0 pl R) Q .next { s with heap := h', toks := tk } :=
  have nd' := ND.perm rest_led nd
  ForW.go ⟨rs, ps, vs, ep, M⟩ (fr_D F e0 e1 e2 e3 e4 e5) (nperm rest_led N) nd'.head ⟨hC, hv, nd'.tail⟩
section
local macro_rules | `(tactic| walk_at "eval IfExp") => `(tactic| k_extra "eval IfExp")
local macro_rules | `(tactic| walk_at "execs cons") => `(tactic| k_extra "execs cons")
local macro_rules | `(tactic| walk_at "storeName") => `(tactic| k_extra "storeName")
local macro_rules | `(tactic| walk_at "setItem ref int") => `(tactic| k_extra "setItem ref int")
local macro_rules | `(tactic| walk_at "compareOp NotEq str str") => `(tactic| k_extra "compareOp NotEq str str")
set_option maxHeartbeats 1000000 in
theorem turn_D (w : World) (mean : ExcName → Option Value) (mg mb : Str → Option Value) (h₀ : Heap) (fa cc L : Addr) (s : Shared) (Q : Flow → Shared → Prop) (E : Value → Shared → Prop) (B : Below callerA h₀ [] h₀) (X : Frag.In (KK w.params) h₀) (T : Top VV (looseW VV []) mean mg mb h₀) (hE : PassesOwn (model PySem.Challenge.rw_nz0117_01.row.prog w) (callerA.deeper (envOfC lawD.name lawD.scope L fa (Value.ref cc))) (envOfC lawD.name lawD.scope L fa (Value.ref cc)) E)
    {n wy : Int} {tn tw u : Tok} {I9 pl sc buf il gd lks lk tabs tb mk bs rw : Addr} {kd : Str} {oI9 oc : Obj} {R : Led} {rs0 rs9 : List IR} {ps9 : Par} {vs9 : List Value} {i9 ep9 tk9 : Nat} {mx9 m₀ : Str → Option Value} {hh9 : Heap}
    (hS : Sc w R rs0 sc buf il gd lks lk tabs kd 0) (hT : Tabs w R wy tb mk bs rw) (hoc : oc.data = .cell (some (.ref pl))) (hcm : (L + 1, oc) ∈ R) (h7 : n ≤ 7) (hl : rs0.length = n.toNat) (hi9 : i9 < n.toNat)
    (hP9 : OkD w.params rs0 pl R ⟨rs9, ps9, vs9, ep9, mx9⟩) (hn9 : ∀ p ∈ (pl, listOf vs9.toArray ep9) :: (rowsLed w.params rs9 ++ R), p.1 ≠ I9)
    (F9 : Fr h₀ L hh9 (fun y => if y = Str.ofString "at" then some (.int (i9 : Int) u) else if y = Str.ofString "scene" then some (.ref sc) else if y = Str.ofString "buffer" then some (.ref buf) else if y = Str.ofString "table" then some (.ref tb) else if y = Str.ofString "count" then some (.int n tn) else if y = Str.ofString "way" then some (.int wy tw) else mx9 y))
    (N9 : News h₀ L hh9 ((I9, oI9) :: (pl, listOf vs9.toArray ep9) :: (rowsLed w.params rs9 ++ R))) :
    wpAny (model PySem.Challenge.rw_nz0117_01.row.prog w) (callerA.deeper (envOfC lawD.name lawD.scope L fa (Value.ref cc))) (execs (lawFor 13) (envOfC lawD.name lawD.scope L fa (Value.ref cc)))
      (ForW h₀ L s (Str.ofString "at") I9 oI9 m₀ (fun _ σ => fmD sc buf tb n wy tn tw σ.mx) (ldD w.params pl R) (OkD w.params rs0 pl R) Q) E { s with heap := hh9, toks := tk9 } := by
  have nd9 := ND.ne (o := oI9) hn9 hP9.nd
  have hC9 := hP9.c
  have pv9 := hP9.pv
  dsimp only at hC9 pv9 nd9
  have sx9 := hC9.sx
  have gl9 := hC9.gl
  have rel9 := hC9.rel
  have ok9 := rel9.ok
  have ln9 := sx9.len
  have lp9 := rel9.len
  have lz9 : rs9.length < 100 := by omega
  have lzp9 : List.length ps9 < 100 := by omega
  have hS9 := hS.at sx9 gl9
  have ha9 : i9 < rs9.length := by omega
  obtain ⟨bd, q0, q1, q2, u2, q3, u3, m3, m4⟩ := hS.buf
  obtain ⟨ep0, m5⟩ := hS.row
  have hi0 : (i9 : Int).toNat = i9 := by omega
  k_with_none
  k_with "eval IfExp" => (k_here; (k_dflt (refine' heard_ok w mean mg mb h₀ fa cc L _ _ E mx9 B X T hS9 hT rel9 ha9 ?nd6 ?F6 ?N6 ?_; (case nd6 => exact nd9); (case F6 => k_asm); (case N6 => k_asm); (rintro v6 n6 h6 tk6 ⟨k6, t6, rs6, rfl, rfl, sx6, gl6, hk6⟩ F6 N6); (replace N6 := nperm apr_led N6); (have ln6 := sx6.len); (have m6 := same_row m5 (sx9.trans sx6)); (have lz6 : rs6.length < 100 := by omega); (have nd6 : ND ((I9, oI9) :: (pl, listOf vs9.toArray ep9) :: (rowsLed w.params rs6 ++ R)) := ND.perm apr_led (sx6.nd (ND.perm apr_led.symm nd9))); rcases hk6 with ⟨rfl, rfl⟩ | ⟨rfl, p6, rs5, hp6, hB6, hS6⟩; (all_goals (try (obtain ⟨r6, hr6, er6, eb6⟩ := set_at hS6 sx6 ha9; (have ep6 : (i9 : Int) + r6.parent = (p6 : Int) := by omega)))))))
  k_with "execs cons" => ((with_reducible show wpAny _ _ (execs (Stmt.If (PySem.Expr.Compare (PySem.Expr.ListComp _ _ _ _) _ _ _) _ _ _ :: _) _) _ _ _); refine stopP ?_)
  k_with "storeName" => (rw [ep6]; walk_at "storeName")
  k_with "compareOp NotEq str str" => (rw [eb6]; walk_at "compareOp NotEq str str")
  k_with "compareOp NotEq str str" => (rw [ebh]; walk_at "compareOp NotEq str str")
  k_with "setItem ref int" => (k_here; (with_reducible show wpAny _ _ (setItem (Value.ref _) (Value.int (i9 : Int) _) Value.none) _ _ _); (k_dflt (refine' par_put (o := none) ?F7 ?N7 ?p7 ?nd7 pv9 lzp9 ?a7 ?b7 (fun _ => rfl) (fun _ e => nomatch e) ?_; (case F7 => k_asm); (case N7 => k_asm); (case p7 => tb_start); (case nd7 => exact ND.perm rest_led nd6); (case a7 => omega); (case b7 => omega); (intro hp7 vs7 ps7 eps7 pv7 lps7 en7 nd7 F7 N7); (rw [hi0] at eps7 en7); (have hA7 : AllEnd ps7 := by (rw [eps7]; exact hC9.all.none (by omega))); (have lz7 : List.length ps7 < 100 := by omega))))
  k_with "exec While BoolOp cons nil" => (k_here; (rename News _ _ _ _ => N8); (rename Fr _ _ _ _ => F8); (k_dflt (refine' while_own (x := Str.ofString "here") (fun c : UP => Value.int (c.here : Int) c.ht) (fun _ => (pl, listOf vs7.toArray ep9) :: (I9, oI9) :: (rowsLed w.params rs6 ++ R)) (UPok ps9 ps7 i9 p6 rs9.length) (fun c => rs9.length - c.ns.length) (c₀ := ⟨p6, _, []⟩) F8 ?hx8 N8 (UPok.start (by omega) (by omega)) ?turn8 (hE := hE); (case hx8 => rfl); k_whole; (rintro c8 hh8 tk8 hc8 F8' N8'); (have low8 := hc8.here); (have cap8 := hc8.cap hA7); dsimp only at F8'; clear N8 F8)))
  k_with "setItem ref int" => (k_here; (with_reducible show wpAny _ _ (setItem (Value.ref _) (Value.int (c8.here : Int) _) Value.none) _ _ _); (k_dflt (refine' par_put (o := none) ?F8 ?N8 ?p8 ?nd8 pv7 lz7 ?a8 ?b8 (fun _ => rfl) (fun _ e => nomatch e) ?_; (case F8 => k_asm); (case N8 => k_asm); (case p8 => tb_start); (case nd8 => exact nd7); (case a8 => omega); (case b8 => omega); (intro hp8 vs8 ps8 eps8 pv8 lps8 en8 nd8 F8 N8); (rw [Int.toNat_natCast] at eps8 en8); (have lz8 : List.length ps8 < 100 := by omega); (rename nxt ps7 _ = some _ => e9); (rw [Int.toNat_natCast] at e9); (have e10 : nxt ps7 c8.here = some i9 := by (rw [e9]; congr 1; omega)); (obtain ⟨rh, hrh0⟩ : ∃ r, rs6[c8.here]? = some r := ⟨_, List.getElem?_eq_getElem (by omega)⟩); (have hrh : rs6[((c8.here : Nat) : Int).toNat]? = some rh := by simpa using hrh0); (obtain ⟨ebh, eyh, -⟩ := brk_here lp9 hA7 ha9 hB6 hS6 eps7 hc8 e10 hrh0))))
  k_with "setItem ref int" => (k_here; (with_reducible show wpAny _ _ (setItem (Value.ref _) (Value.int (i9 : Int) _) (Value.int _ _)) _ _ _); (k_dflt (refine' par_put (o := some p6) ?F9 ?N9 ?p9 ?nd9 ?P9 ?z9 ?a9 ?b9 (fun e => nomatch e) (fun g e => ⟨_, by cases e; rfl⟩) ?_; (case F9 => k_asm); (case N9 => k_asm); (case P9 => assumption); (case p9 => tb_start); (case nd9 => first | exact nd8 | exact nd7); (case z9 => assumption); (case a9 => omega); (case b9 => omega); (intro hp10 vs10 ps10 eps10 pv10 lps10 en10 nd10 F10 N10); (rw [hi0] at eps10 en10))))
  all_goals try k_fold
  k_steps
  · rename News _ _ _ _ => NZ
    have NZ2 := nperm rest_led NZ
    have ndZ2 := ND.perm rest_led nd9
    exact rest_D w mean mg mb h₀ fa cc L s _ E _ B X T hoc hcm hS.buf hS.row (by omega) h7 hl hC9 pv9 ndZ2 (Fr.own (x := Str.ofString "buffer") (Fr.own (x := Str.ofString "count") (by k_asm) rfl) rfl) (by k_asm) (fun h' tk' F' N' => end_D hC9 pv9 ndZ2 F' rfl rfl rfl rfl rfl rfl N')
  · exfalso; omega
  · rename nxt ps7 _ = some _ => e9
    rw [Int.toNat_natCast] at e9
    exact WhW.go (UP.mk _ _ (c8.ns ++ [c8.here])) (fr_put (by k_asm)) (by k_asm) (by dsimp only; rw [List.length_append]; simp only [List.length_cons, List.length_nil]; omega) (hc8.next hA7 ok9 lp9.symm ha9 eps7 e9 (by omega))
  · exfalso; omega
  · have HC := hC9.set1 ha9 hp6 hB6 sx6 gl6 hS6 eps7 hc8 e10 eps8 eps10
    exact rest_D w mean mg mb h₀ fa cc L s _ E _ B X T hoc hcm hS.buf hS.row (by omega) h7 hl HC pv10 nd10 (Fr.own (x := Str.ofString "buffer") (Fr.own (x := Str.ofString "count") (by k_asm) rfl) rfl) (by k_asm) (fun h' tk' F' N' => end_D HC pv10 nd10 F' rfl rfl rfl rfl rfl rfl N')
  · exfalso; omega
  · rename nxt ps7 _ = none => e9
    rw [Int.toNat_natCast] at e9
    have HC := hC9.set0 ha9 hp6 hB6 sx6 gl6 hS6 eps7 hc8 e9 eps10
    exact rest_D w mean mg mb h₀ fa cc L s _ E _ B X T hoc hcm hS.buf hS.row (by omega) h7 hl HC pv10 nd10 (Fr.own (x := Str.ofString "buffer") (Fr.own (x := Str.ofString "count") (by k_asm) rfl) rfl) (by k_asm) (fun h' tk' F' N' => end_D HC pv10 nd10 F' rfl rfl rfl rfl rfl rfl N')
end
theorem RelP.inr {rs : List IR} {ps : Par} (h : RelP rs ps) : InR rs := fun i r hr => by
  have hi := (List.getElem?_eq_some_iff.mp hr).1
  have hl := h.len
  rw [h.val i r hr]
  cases e : nxt ps i with
  | none => rw [off_none e]; omega
  | some g => rw [off_of e]; have := (h.ok i g e).1; omega
theorem ints_rep (n : Nat) (t : Tok) : IntsAre (List.replicate n (Value.int 0 t)) (List.replicate n 0) := by
  induction n with
  | zero => exact .nil
  | succ n ih => exact .cons 0 t ih
theorem ints_zero {ys : List Value} {i : Nat} {k : Int} {t : Tok} (h : IntsAre ys (List.replicate i 0)) (e : k = 0) : IntsAre (ys ++ [Value.int k t]) (List.replicate (i + 1) 0) := by
  subst e
  rw [List.replicate_succ']
  exact IntsAre.snoc' h
section
local macro_rules | `(tactic| walk_at "binaryOp Mult ref int") => `(tactic| k_extra "binaryOp Mult ref int")
local macro_rules | `(tactic| walk_at "compareOp Eq ref ref") => `(tactic| k_extra "compareOp Eq ref ref")
local macro_rules | `(tactic| walk_at "eval ListComp") => `(tactic| k_extra "eval ListComp")
set_option maxHeartbeats 1000000 in
theorem law_E (w : World) (mean : ExcName → Option Value) (mg mb : Str → Option Value) (h₀ : Heap) (fa cc L : Addr) (s : Shared) (Q : Flow → Shared → Prop) (E : Value → Shared → Prop) (mx : Str → Option Value) (B : Below callerA h₀ [] h₀) (X : Frag.In (KK w.params) h₀) (T : Top VV (looseW VV []) mean mg mb h₀) (hE : PassesOwn (model PySem.Challenge.rw_nz0117_01.row.prog w) (callerA.deeper (envOfC lawD.name lawD.scope L fa (Value.ref cc))) (envOfC lawD.name lawD.scope L fa (Value.ref cc)) E) (hret : ∀ h' tk m', Fr h₀ L h' m' → Q (.ret (.bool true)) { s with heap := h', toks := tk }) {n : Int} {tn : Tok} {pl buf il : Addr} {lo : Obj} {R : Led} {rs0 rs : List IR} {ps : Par}
    (hbuf : IsBuf w.params R buf il) (hrow0 : IsRow R il rs0) (h1 : 1 ≤ n) (h7 : n ≤ 7) (hl : rs0.length = n.toNat) (hC : OkC rs0 rs ps) (nd : ND ((pl, lo) :: (rowsLed w.params rs ++ R)))
    (F : Fr h₀ L s.heap (fun y => if y = Str.ofString "buffer" then some (.ref buf) else if y = Str.ofString "count" then some (.int n tn) else mx y))
    (N : News h₀ L s.heap ((pl, lo) :: (rowsLed w.params rs ++ R))) :
    wpAny (model PySem.Challenge.rw_nz0117_01.row.prog w) (callerA.deeper (envOfC lawD.name lawD.scope L fa (Value.ref cc))) (execs (List.drop 14 lawD.body) (envOfC lawD.name lawD.scope L fa (Value.ref cc))) Q E s := by
  have hbuf0 := hbuf
  obtain ⟨bd, q0, q1, q2, u2, q3, u3, m3, m4⟩ := hbuf
  have sx := hC.sx
  have hlr := sx.len
  have hin := hC.rel.inr
  have hrow := hrow0.same sx
  obtain ⟨ep0, m5⟩ := hrow
  have hrow : IsRow R il rs := ⟨ep0, m5⟩
  have hG := hC.gl
  have hz : rs.length < 100 := by omega
  k_with_none
  k_with "call ref" => (k_here; (with_reducible show wpAny _ _ (call (Value.ref 435) _) _ _ _); k_dflt (refine' use_spec (settle_ok _ _ _ _ _ ?h1_u24 ?h2_u24 ?h3_u24 ?h4_u24 ?h5_u24 ?h6_u24) ?p0_u24 ?B0_u24 ?F0_u24 ?X0_u24 ?N0_u24 ?T0_u24 ?k0_u24 ?d0_u24 ?u0_u24 ?_; (case B0_u24 => k_asm); (case F0_u24 => k_asm); (case X0_u24 => k_asm); (case N0_u24 => k_asm); (case T0_u24 => k_asm); (case k0_u24 => first | exact rfl | assumption); (case p0_u24 => tb_rel); (case h1_u24 => first | assumption | (rename News _ _ _ _ => N7_u24; exact nd_of N7_u24 (by tb_rel) (by k_ownIn))); (case h2_u24 => first | assumption | exact IsBuf.mono (by assumption) (by first | k_sub | (intro p9_u24 h9_u24; k_mem))); (case h3_u24 => first | assumption | exact ⟨_, by k_mem⟩ | exact IsRow.mono (by assumption) (by first | k_sub | (intro p9_u24 h9_u24; k_mem))); (case h4_u24 => assumption); (case h5_u24 => assumption); (case h6_u24 => assumption); (case d0_u24 => ktr_room); (case u0_u24 => ktr_units); k_whole); intro r9_u24 n9_u24 h9_u24 t9_u24 P9_u24 F9_u24 N9_u24; obtain ⟨e8_u24, rs8_u24, e9_u24, U8_u24⟩ := P9_u24; subst n9_u24; subst e8_u24; (try k_sweep); (try dsimp only); (try k_fold))
  k_with "eval ListComp" => (k_here; lcg_calm; k_dflt (refine LCg.ListComp_U (F₀ := by k_asm) (by rfl) (by decide) (by rfl) (by decide) (by rfl) ?_))
  k_with "CompSrc" => (
    (rename Fr _ _ _ _ => lF'); (rename News _ _ _ _ => lN'); (rename Zer _ _ _ => hZ8);
    (k_dflt (refine' comp_list (fun i ys => IntsAre ys (List.replicate i 0)) (by rfl) lF' lN' ?m75 ?z75 .nil ?turn75 ?fin75)); (case m75 => k_mem); (case z75 => rw [rowOf_len]; omega);
    (case' turn75 => (rintro i9 ys9 v9 I9 oI9 C9 oC9 D9 m9 hh9 tk9 E9 hv9 hJ9 hC9 hx9 F9 N9 of9 ne9; obtain ⟨r9, hr9, e9⟩ := row_elem hv9 seg_all hZ8.sx; subst e9; rw [Nat.zero_add] at hr9; (have mx9 := rows_x (P := w.params) (List.mem_of_getElem? hr9)); (have md9 := rows_d (P := w.params) (List.mem_of_getElem? hr9)); (have hz9 := hZ8.zero i9 r9 (by have := (List.getElem?_eq_some_iff.mp hr9).1; rw [hZ8.sx.len] at this; exact this) hr9); clear lF' lN'));
    (case' fin75 => (rintro g9 ys9 hJ9; rw [rowOf_len] at hJ9; clear lF' lN')))
  k_with "binaryOp Mult ref int" => (k_here; (k_dflt (refine' mul_rep ?F76 ?N76 ?m76 ?z76 ?y76 ?_; (case F76 => k_asm); (case N76 => k_asm); (case m76 => exact List.Mem.head _); (case z76 => omega); (case y76 => omega); k_whole; intro D6 h6 F6 N6 l6)))
  k_with "compareOp Eq ref ref" => (k_here; (k_dflt (refine' eq_zeros ?N77 ?a77 ?b77 hJ9 (ints_rep _ _) ?e77 ?u77 ?_; (case N77 => k_asm); (case b77 => exact List.Mem.head _); (case a77 => k_mem); (case e77 => rw [hlr, hl]); (case u77 => ke_room); k_whole)))
  all_goals try k_fold
  k_steps
  · exact hret _ _ _ (by k_asm)
  · exact CmpW.go (by k_asm) (by k_asm) (ints_zero hJ9 hz9)
end
set_option maxHeartbeats 1000000 in
theorem law_D (w : World) (mean : ExcName → Option Value) (mg mb : Str → Option Value) (h₀ : Heap) (fa cc L : Addr) (s : Shared) (Q : Flow → Shared → Prop) (E : Value → Shared → Prop) (mx : Str → Option Value) (B : Below callerA h₀ [] h₀) (X : Frag.In (KK w.params) h₀) (T : Top VV (looseW VV []) mean mg mb h₀) (hE : PassesOwn (model PySem.Challenge.rw_nz0117_01.row.prog w) (callerA.deeper (envOfC lawD.name lawD.scope L fa (Value.ref cc))) (envOfC lawD.name lawD.scope L fa (Value.ref cc)) E) (hret : ∀ h' tk m', Fr h₀ L h' m' → Q (.ret (.bool true)) { s with heap := h', toks := tk }) {n wy : Int} {tn tw : Tok} {pl sc buf il gd lks lk tabs tb mk bs rw : Addr} {kd : Str} {oc : Obj} {R : Led} {rs : List IR} {ps : Par} {vs : List Value} {ep : Nat}
    (hS : Sc w R rs sc buf il gd lks lk tabs kd 0) (hT : Tabs w R wy tb mk bs rw) (hoc : oc.data = .cell (some (.ref pl))) (hcm : (L + 1, oc) ∈ R) (h1 : 1 ≤ n) (h7 : n ≤ 7) (hl : rs.length = n.toNat) (hC : OkC rs rs ps) (hv : PVs vs ps)
    (nd : ND ((pl, listOf vs.toArray ep) :: (rowsLed w.params rs ++ R)))
    (F : Fr h₀ L s.heap (fun y => if y = Str.ofString "scene" then some (.ref sc) else if y = Str.ofString "buffer" then some (.ref buf) else if y = Str.ofString "table" then some (.ref tb) else if y = Str.ofString "count" then some (.int n tn) else if y = Str.ofString "way" then some (.int wy tw) else mx y))
    (N : News h₀ L s.heap ((pl, listOf vs.toArray ep) :: (rowsLed w.params rs ++ R))) :
    wpAny (model PySem.Challenge.rw_nz0117_01.row.prog w) (callerA.deeper (envOfC lawD.name lawD.scope L fa (Value.ref cc))) (execs (List.drop 13 lawD.body) (envOfC lawD.name lawD.scope L fa (Value.ref cc))) Q E s := by
  k_with_none
  k_with "exec For Name Call cons nil" => (k_here; (rename Fr _ _ _ _ => lF'); (with_unfolding_all refine' For_invVF lF' ?k15 ?k25 ?_ (hE := hE); (case k15 => exact rfl); (case k25 => exact rfl); k_whole))
  k_with "pyIter ref" => (
    (rename Fr _ _ _ _ => lF'); (rename News _ _ _ ((_, _) :: _) => lN'); (rename IsRange _ _ _ _ _ _ _ _ => rgX);
    (with_unfolding_all refine' for_range (σ := SD) (m₀ := mx) (fun _ σ => fmD sc buf tb n wy tn tw σ.mx) (ldD w.params pl R) (fun _ => OkD w.params rs pl R) (c₀ := ⟨rs, ps, vs, ep, mx⟩) (by rfl) rgX (small_one (by l_bnd) (by l_bnd) (by l_bnd) (by l_bnd)) (rangeSize_nat _ _) lF' lN' ⟨hC, hv, nd⟩ ?turn5 ?done5);
    (case' turn5 => (rintro i9 u9 ⟨rs9, ps9, vs9, ep9, mx9⟩ hh9 tk9 I9 oI9 hi9 hP9 hn9 F9 N9; refine stopP ?_));
    (case' done5 => (rintro ⟨rs9, ps9, vs9, ep9, mx9⟩ u9 hh9 tk9 hP9 F9 N9; refine stopP ?_)))
  all_goals try k_fold
  k_steps
  · exact law_E w mean mg mb h₀ fa cc L _ Q E _ B X T hE hret hS.buf hS.row h1 h7 hl hP9.c hP9.nd (Fr.own (x := Str.ofString "buffer") (Fr.own (x := Str.ofString "count") F9 rfl) rfl) N9
  · rw [Int.zero_add] at F9
    exact turn_D w mean mg mb h₀ fa cc L _ _ E B X T hE hS hT hoc hcm h7 hl (by omega) hP9 hn9 F9 N9
theorem law_D2 (w : World) (mean : ExcName → Option Value) (mg mb : Str → Option Value) (h₀ : Heap) (fa cc L : Addr) (s : Shared) (Q : Flow → Shared → Prop) (E : Value → Shared → Prop) (mx : Str → Option Value) (B : Below callerA h₀ [] h₀) (X : Frag.In (KK w.params) h₀) (T : Top VV (looseW VV []) mean mg mb h₀) (hE : PassesOwn (model PySem.Challenge.rw_nz0117_01.row.prog w) (callerA.deeper (envOfC lawD.name lawD.scope L fa (Value.ref cc))) (envOfC lawD.name lawD.scope L fa (Value.ref cc)) E) (hret : ∀ h' tk m', Fr h₀ L h' m' → Q (.ret (.bool true)) { s with heap := h', toks := tk }) {n wy : Int} {tn tw : Tok} {pl sc buf il gd lks lk tabs tb mk bs rw : Addr} {kd : Str} {oc : Obj} {cur l R : Led} {rs : List IR} {ps : Par} {vs : List Value} {ep : Nat}
    (N : News h₀ L s.heap cur) (ndc : ND cur) (p1 : cur.Perm ((pl, listOf vs.toArray ep) :: l)) (p2 : l.Perm (rowsLed w.params rs ++ R))
    (hS : Sc w R rs sc buf il gd lks lk tabs kd 0) (hT : Tabs w R wy tb mk bs rw) (hoc : oc.data = .cell (some (.ref pl))) (hcm : (L + 1, oc) ∈ R) (h1 : 1 ≤ n) (h7 : n ≤ 7) (hl : rs.length = n.toNat) (hC : OkC rs rs ps) (hv : PVs vs ps)
    (F : Fr h₀ L s.heap (fun y => if y = Str.ofString "scene" then some (.ref sc) else if y = Str.ofString "buffer" then some (.ref buf) else if y = Str.ofString "table" then some (.ref tb) else if y = Str.ofString "count" then some (.int n tn) else if y = Str.ofString "way" then some (.int wy tw) else mx y)) :
    wpAny (model PySem.Challenge.rw_nz0117_01.row.prog w) (callerA.deeper (envOfC lawD.name lawD.scope L fa (Value.ref cc))) (execs (List.drop 13 lawD.body) (envOfC lawD.name lawD.scope L fa (Value.ref cc))) Q E s :=
  law_D w mean mg mb h₀ fa cc L s Q E mx B X T hE hret hS hT hoc hcm h1 h7 hl hC hv (ndc.perm (p1.trans (List.Perm.cons _ p2))) F (nperm (p1.trans (List.Perm.cons _ p2)) N)
section
variable {prog : Program} {w : World} {s : Shared} {h₀ : Heap} {L d : Addr} {m : Str → Option Value} {cur led : Led} {o : Obj} {Q : Value → Shared → Prop} {vs : List (Value × Value)}
theorem kdn_p (F : Fr h₀ L s.heap m) (N : News h₀ L s.heap cur) (hp : cur.Perm ((d, o) :: led)) (nd : ND ((d, o) :: led)) (hd : o.IsDictOf (PySem.intKind prog w) []) (hk : allIntKeys vs = true) (hn : ((intKeyPairs vs).map (·.1)).Nodup)
    (h : ∀ h' o', Fr h₀ L h' m → News h₀ L h' ((d, o') :: led) → o'.IsDictOf (PySem.intKind prog w) (intKeyPairs vs) → ND ((d, o') :: led) → Q (.ref d) { s with heap := h', toks := s.toks + vs.length }) : KdnMade prog w (PySem.intKind prog w) d Q vs s :=
  kdn_made_int F (nperm hp N) (UpdF.nd0 nd) hd hk hn fun h' o' F' N' x => h h' o' F' N' x nd.put
end
section
local macro_rules | `(tactic| walk_at "KdnMade") => `(tactic| (k_here; (k_dflt (refine' kdn_p ?F1 ?N1 ?p1 ?nd1 ?d1 ?k1 ?n1 ?_; (case F1 | N1 => k_asm); (case p1 => tb_start); (case nd1 => (rename News _ _ _ _ => N7; exact nd_of N7 (by tb_start) (by k_ownIn))); (case d1 => k_asm); (case k1 => rfl); (case n1 => exact of_decide_eq_true (by first | rfl | kernel_rfl!)); intro h9 o9 F9 N9 hd9 nd9))))
local macro_rules | `(tactic| walk_at "execs cons") => `(tactic| k_extra "execs cons")
set_option maxHeartbeats 1000000 in
theorem law_C (w : World) (mean : ExcName → Option Value) (mg mb : Str → Option Value) (h₀ : Heap) (fa cc L : Addr) (s : Shared) (Q : Flow → Shared → Prop) (E : Value → Shared → Prop) (mx : Str → Option Value) (B : Below callerA h₀ [] h₀) (X : Frag.In (KK w.params) h₀) (T : Top VV (looseW VV []) mean mg mb h₀) (hE : PassesOwn (model PySem.Challenge.rw_nz0117_01.row.prog w) (callerA.deeper (envOfC lawD.name lawD.scope L fa (Value.ref cc))) (envOfC lawD.name lawD.scope L fa (Value.ref cc)) E) (hret : ∀ h' tk m', Fr h₀ L h' m' → Q (.ret (.bool true)) { s with heap := h', toks := tk }) {n wy : Int} {tn tw : Tok} {il pl : Addr} {ep : Nat} {oc : Obj} {R : Led} {rs : List IR} {ps : Par} {vs : List Value}
    (F : Fr h₀ L s.heap (fun y => if y = Str.ofString "infos" then some (.ref il) else if y = Str.ofString "count" then some (.int n tn) else if y = Str.ofString "way" then some (.int wy tw) else mx y))
    (N : News h₀ L s.heap ((pl, listOf vs.toArray ep) :: (rowsLed w.params rs ++ R))) (nd : ND ((pl, listOf vs.toArray ep) :: (rowsLed w.params rs ++ R))) (hoc : oc.data = .cell (some (.ref pl))) (hcm : (L + 1, oc) ∈ R)
    (hil : IsRow R il rs) (hv : PVs vs ps) (h1 : 1 ≤ n) (h7 : n ≤ 7) (hl : rs.length = n.toNat) (hG : GL rs) (hrel : RelP rs ps) (hall : AllEnd ps) (hwy : wy = 0 ∨ wy = 1) :
    wpAny (model PySem.Challenge.rw_nz0117_01.row.prog w) (callerA.deeper (envOfC lawD.name lawD.scope L fa (Value.ref cc))) (execs (List.drop 7 lawD.body) (envOfC lawD.name lawD.scope L fa (Value.ref cc))) Q E s := by
  k_with_none
  k_with "call ref" => (k_here; (with_reducible show wpAny _ _ (call (Value.ref 112) _) _ _ _); (k_dflt (refine' new_scene _ _ _ _ _ _ _ _ _ _ _ _ _ _ _ _ _ _ ?B1_u34 ?X1_u34 ?T1_u34 ?F1_u34 ?N1_u34 ?_; (case B1_u34 => k_asm); (case X1_u34 => k_asm); (case T1_u34 => k_asm); (case F1_u34 => k_asm); (case N1_u34 => k_asm); k_whole; intro ext8_u34 a8_u34 h8_u34 tk8_u34 i8_u34 nd8_u34 F8_u34 N8_u34; (try (have nd7_u34 := nd8_u34 (by first | assumption | k_ownIn))))))
  k_with "call ref" => (k_here; (with_reducible show wpAny _ _ (call (Value.ref 90) _) _ _ _); (k_dflt (refine' new_lookup _ _ _ _ _ _ _ _ _ _ _ _ _ _ _ _ _ _ ?B1_u33 ?X1_u33 ?T1_u33 ?F1_u33 ?N1_u33 ?_; (case B1_u33 => k_asm); (case X1_u33 => k_asm); (case T1_u33 => k_asm); (case F1_u33 => k_asm); (case N1_u33 => k_asm); k_whole; intro ext8_u33 a8_u33 h8_u33 tk8_u33 i8_u33 nd8_u33 F8_u33 N8_u33; (try (have nd7_u33 := nd8_u33 (by first | assumption | k_ownIn))))))
  k_with "call ref" => (k_here; (with_reducible show wpAny _ _ (call (Value.ref 228) _) _ _ _); (k_dflt (refine' new_buf _ _ _ _ _ _ _ _ _ _ _ _ _ _ ?B1_u32 ?X1_u32 ?T1_u32 ?F1_u32 ?N1_u32 ?_; (case B1_u32 => k_asm); (case X1_u32 => k_asm); (case T1_u32 => k_asm); (case F1_u32 => k_asm); (case N1_u32 => k_asm); k_whole; intro ext8_u32 a8_u32 h8_u32 tk8_u32 i8_u32 nd8_u32 F8_u32 N8_u32; (try (have nd7_u32 := nd8_u32 (by first | assumption | k_ownIn))))))
  k_with "call ref" => (k_here; (with_reducible show wpAny _ _ (call (Value.ref 340) _) _ _ _); (k_dflt (refine' new_tabM _ _ _ _ _ _ _ _ _ _ _ _ _ _ _ ?B1_u31 ?X1_u31 ?T1_u31 ?F1_u31 ?N1_u31 ?_; (case B1_u31 => k_asm); (case X1_u31 => k_asm); (case T1_u31 => k_asm); (case F1_u31 => k_asm); (case N1_u31 => k_asm); k_whole; intro ext8_u31 a8_u31 h8_u31 tk8_u31 i8_u31 nd8_u31 F8_u31 N8_u31; (try (have nd7_u31 := nd8_u31 (by first | assumption | k_ownIn))))))
  k_with "call ref" => (k_here; (with_reducible show wpAny _ _ (call (Value.ref 312) _) _ _ _); (k_dflt (refine' new_tabB _ _ _ _ _ _ _ _ _ _ _ _ _ _ _ ?B1_u30 ?X1_u30 ?T1_u30 ?F1_u30 ?N1_u30 ?_; (case B1_u30 => k_asm); (case X1_u30 => k_asm); (case T1_u30 => k_asm); (case F1_u30 => k_asm); (case N1_u30 => k_asm); k_whole; intro ext8_u30 a8_u30 h8_u30 tk8_u30 i8_u30 nd8_u30 F8_u30 N8_u30; (try (have nd7_u30 := nd8_u30 (by first | assumption | k_ownIn))))))
  k_with "call ref" => (k_here; (with_reducible show wpAny _ _ (call (Value.ref 526) _) _ _ _); (k_dflt (refine' new_gdef _ _ _ _ _ _ _ _ _ _ _ _ _ _ _ _ ?B1_u29 ?X1_u29 ?T1_u29 ?F1_u29 ?N1_u29 ?_; (case B1_u29 => k_asm); (case X1_u29 => k_asm); (case T1_u29 => k_asm); (case F1_u29 => k_asm); (case N1_u29 => k_asm); k_whole; intro ext8_u29 a8_u29 h8_u29 tk8_u29 i8_u29 nd8_u29 F8_u29 N8_u29; (try (have nd7_u29 := nd8_u29 (by first | assumption | k_ownIn))))))
  k_with "call ref" => (k_here; (with_reducible show wpAny _ _ (call (Value.ref 478) _) _ _ _); (k_dflt (refine' new_cls _ _ _ _ _ _ _ _ _ _ _ _ _ _ ?B1_u28 ?X1_u28 ?T1_u28 ?F1_u28 ?N1_u28 ?_; (case B1_u28 => k_asm); (case X1_u28 => k_asm); (case T1_u28 => k_asm); (case F1_u28 => k_asm); (case N1_u28 => k_asm); k_whole; intro ext8_u28 a8_u28 h8_u28 tk8_u28 i8_u28 nd8_u28 F8_u28 N8_u28; (try (have nd7_u28 := nd8_u28 (by first | assumption | k_ownIn))))))
  k_with "call ref" => (k_here; (with_reducible show wpAny _ _ (call (Value.ref 45) _) _ _ _); (k_dflt (refine' new_anchor _ _ _ _ _ _ _ _ _ _ _ _ _ _ _ _ _ ?B1_u27 ?X1_u27 ?T1_u27 ?F1_u27 ?N1_u27 ?_; (case B1_u27 => k_asm); (case X1_u27 => k_asm); (case T1_u27 => k_asm); (case F1_u27 => k_asm); (case N1_u27 => k_asm); k_whole; intro ext8_u27 a8_u27 h8_u27 tk8_u27 i8_u27 nd8_u27 F8_u27 N8_u27; (try (have nd7_u27 := nd8_u27 (by first | assumption | k_ownIn))))))
  k_with "execs cons" => ((with_reducible show wpAny _ _ (execs (Stmt.For _ _ _ _ _ :: _) _) _ _ _); refine stopP ?_)
  k_with "eval IfExp" => (rcases hwy with rfl | rfl)
  all_goals try k_fold
  k_steps
  · rename News _ _ _ _ => NZ
    rename ND (_ ++ (_ ++ _)) => ndZ
    refine' law_D2 w mean mg mb h₀ fa cc L _ _ _ _ B X T hE hret NZ ndZ ?s90 ?s91 ⟨IsScene.mono (by assumption) ?s1, IsBuf.mono (by assumption) ?s2, ⟨_, _, IsGdef.mono (by assumption) ?s3, IsCls.mono (by assumption) ?s4, ⟨_, _, _, _, _, _, ?s5, by assumption, by assumption, by assumption⟩⟩, IsLookup.mono (by assumption) ?s6, hil.mono ?s7, hG, by omega⟩
      ⟨.inl ⟨rfl, IsTabB.mono (by assumption) ?s8, ⟨_, ?s9, by assumption, by assumption, ⟨_, ?s10, ⟨_, _, IsAnchor.mono (by assumption) ?s11⟩⟩⟩⟩, ⟨_, _, _, _, _, _, _, ?s12, by assumption, ?s18, ?s13, ?s14, ?s15, ?s16⟩⟩
      hoc ?s17 h1 h7 hl ⟨SameX.rfl', hG, hrel, hall⟩ hv (Fr.own (x := Str.ofString "scene") (Fr.own (x := Str.ofString "buffer") (Fr.own (x := Str.ofString "table") (Fr.own (x := Str.ofString "count") (Fr.own (x := Str.ofString "way") (by k_asm) rfl) rfl) rfl) rfl) rfl)
    case s90 => tb_start
    case s91 => tb_rel
    case s12 => k_mem
    case s18 => assumption
    case s13 => k_mem
    case s14 => k_mem
    case s15 => exact ⟨_, _, IsAnchor.mono (by assumption) (by intro p9 h9; k_mem)⟩
    case s16 => exact ⟨_, _, IsAnchor.mono (by assumption) (by intro p9 h9; k_mem)⟩
    all_goals first | k_mem | (intro p9 h9; k_mem)
  · rename News _ _ _ _ => NZ
    rename ND (_ ++ (_ ++ _)) => ndZ
    refine' law_D2 w mean mg mb h₀ fa cc L _ _ _ _ B X T hE hret NZ ndZ ?t90 ?t91 ⟨IsScene.mono (by assumption) ?t1, IsBuf.mono (by assumption) ?t2, ⟨_, _, IsGdef.mono (by assumption) ?t3, IsCls.mono (by assumption) ?t4, ⟨_, _, _, _, _, _, ?t5, by assumption, by assumption, by assumption⟩⟩, IsLookup.mono (by assumption) ?t6, hil.mono ?t7, hG, by omega⟩
      ⟨.inr ⟨rfl, IsTabM.mono (by assumption) ?t8, ⟨_, ?t9, by assumption, by assumption, ⟨_, ?t10, ⟨_, _, IsAnchor.mono (by assumption) ?t11⟩⟩⟩⟩, ⟨_, _, _, _, _, _, _, ?t12, by assumption, ?t18, ?t13, ?t14, ?t15, ?t16⟩⟩
      hoc ?t17 h1 h7 hl ⟨SameX.rfl', hG, hrel, hall⟩ hv (Fr.own (x := Str.ofString "scene") (Fr.own (x := Str.ofString "buffer") (Fr.own (x := Str.ofString "table") (Fr.own (x := Str.ofString "count") (Fr.own (x := Str.ofString "way") (by k_asm) rfl) rfl) rfl) rfl) rfl)
    case t90 => tb_start
    case t91 => tb_rel
    case t12 => k_mem
    case t18 => assumption
    case t13 => k_mem
    case t14 => k_mem
    case t15 => exact ⟨_, _, IsAnchor.mono (by assumption) (by intro p9 h9; k_mem)⟩
    case t16 => exact ⟨_, _, IsAnchor.mono (by assumption) (by intro p9 h9; k_mem)⟩
    all_goals first | k_mem | (intro p9 h9; k_mem)
end
section
local macro_rules | `(tactic| walk_at "storeName") => `(tactic| k_extra "storeName")
local macro_rules | `(tactic| walk_at "binaryOp Mult ref int") => `(tactic| k_extra "binaryOp Mult ref int")
local macro_rules | `(tactic| walk_at "of law_Bx") => `(tactic| fail)
set_option maxHeartbeats 2000000 in
theorem law_Bx (w : World) (mean : ExcName → Option Value) (mg mb : Str → Option Value) (h₀ : Heap) (fa cc L : Addr) (s : Shared) (Q : Flow → Shared → Prop) (E : Value → Shared → Prop) (mx : Str → Option Value) (B : Below callerA h₀ [] h₀) (X : Frag.In (KK w.params) h₀) (T : Top VV (looseW VV []) mean mg mb h₀) (hE : PassesOwn (model PySem.Challenge.rw_nz0117_01.row.prog w) (callerA.deeper (envOfC lawD.name lawD.scope L fa (Value.ref cc))) (envOfC lawD.name lawD.scope L fa (Value.ref cc)) E) (hret : ∀ h' tk m', Fr h₀ L h' m' → Q (.ret (.bool true)) { s with heap := h', toks := tk }) {n wy : Int} {tn tw : Tok} {il pen cells : Addr} {c : PN} {epi : Nat} {oc : Obj} {v0 : Option Value} {R : Led} {rs : List IR}
    (F : Fr h₀ L s.heap (fun y => if y = Str.ofString "infos" then some (.ref il) else if y = Str.ofString "count" then some (.int n tn) else if y = Str.ofString "way" then some (.int wy tw) else if y = Str.ofString "pen" then some (.ref pen) else mx y))
    (N : News h₀ L s.heap ((il, listOf (rowOf rs).toArray epi) :: (pen, penObj cells c) :: (rowsLed w.params rs ++ (L + 1, oc) :: R))) (nd : ND ((il, listOf (rowOf rs).toArray epi) :: (pen, penObj cells c) :: (rowsLed w.params rs ++ (L + 1, oc) :: R))) (hoc : oc.data = .cell v0)
    (hA : PenA R cells) (hc : PNok c 10) (h1 : 1 ≤ n) (h7 : n ≤ 7) (hl : rs.length = n.toNat) (hG : GL rs) (hp : ∀ r ∈ rs, r.parent = 0) (hw0 : 0 ≤ wy) (hw1 : wy < 2) :
    wpAny (model PySem.Challenge.rw_nz0117_01.row.prog w) (callerA.deeper (envOfC lawD.name lawD.scope L fa (Value.ref cc))) (execs (List.drop 5 lawD.body) (envOfC lawD.name lawD.scope L fa (Value.ref cc))) Q E s := by
  k_with_none
  k_with "binaryOp Mult ref int" => (k_here; k_dflt (refine' mul_rep ?F6 ?N6 ?m6 ?z6 ?y6 ?_; (case F6 => k_asm); (case N6 => k_asm); (case m6 => exact List.Mem.head _); (case z6 => omega); (case y6 => omega); k_whole); intro D6 h6 F6 N6 l6; (have al6 := allLt_of l6))
  k_with "storeName" => (k_here; k_dflt (refine' store_cell ?F7 ?N7 ?p7 ?nd7 rfl hoc ?_; (case F7 => k_asm); (case N7 => k_asm); (case p7 => tb_start); (case nd7 => rename News _ _ _ _ => N7; exact nd_of N7 (by tb_start) (by k_ownIn)); k_whole); intro hp7 oc7 F7 N7 hoc7 nd7)
  k_with "exec For Name Call cons nil" => (k_here; (rename Fr _ _ _ _ => lF'); (with_unfolding_all refine' For_invVF lF' ?k15 ?k25 ?_ (hE := hE); (case k15 => exact rfl); (case k25 => exact rfl); k_whole))
  k_with "pyIter ref" => (
    (rename Fr _ _ _ _ => lF'); (rename News _ _ _ ((_, _) :: _) => lN'); (rename IsRange _ _ _ _ _ _ _ _ => rgX);
    (have lN2 := nperm (perm_B _ _) lN'); (have nd2 := nd7.perm (perm_B _ _)); rw [← hl] at lN2 nd2;
    (with_unfolding_all refine' for_range (σ := SB) (fun m σ y => if y = Str.ofString "goal" then σ.gv else m y) (ldB w.params D6 pen cells _) (OkB w.params rs D6 pen cells _) (c₀ := ⟨rs, List.replicate rs.length none, List.replicate rs.length Value.none, c, 0, _⟩) (by rfl) rgX (small_one (by l_bnd) (by l_bnd) (by l_bnd) (by l_bnd)) (rangeSize_nat _ _) (own_z (Str.ofString "goal") lF') lN2 (OkB.start hG hp hc nd2) ?turn5 ?done5);
    (case' turn5 => (rintro i9 u9 ⟨rs9, ps9, vs9, c9, ep9, gv9⟩ hh9 tk9 I9 oI9 hi9 hP9 hn9 F9 N9; refine stopP ?_));
    (case' done5 => (rintro ⟨rs9, ps9, vs9, c9, ep9, gv9⟩ u9 hh9 tk9 hP9 F9 N9; refine stopP ?_)))
  all_goals try k_fold
  k_steps
  · refine law_C w mean mg mb h₀ fa cc L _ Q E _ B X T hE hret (Fr.own (x := Str.ofString "infos") (Fr.own (x := Str.ofString "count") (Fr.own (x := Str.ofString "way") F9 rfl) rfl) rfl) (News.sub N9 (fun p hp => ?_)) (ND.perm (List.Perm.swap ..) hP9.nd).tail hoc7 (.head _) ⟨epi, same_row (.tail _ (.tail _ (.head _))) hP9.sx⟩ hP9.pv h1 h7 (hP9.sx.len.trans hl) hP9.gl hP9.rel hP9.all (by omega)
    rcases List.mem_cons.mp hp with rfl | hp
    · exact .head _
    · exact .tail _ (.tail _ hp)
  · exact turn_B w mean mg mb h₀ fa cc L _ _ E mx B X T hoc7 hA h1 h7 hl (by omega) hP9 hn9 F9 N9
end
section
local macro_rules | `(tactic| walk_at "call builtin:list.append") => `(tactic| k_extra "call builtin:list.append")
set_option maxHeartbeats 800000 in
theorem law_Ax (w : World) (mean : ExcName → Option Value) (mg mb : Str → Option Value) (h₀ : Heap) (fa cc L : Addr) (s : Shared) (Q : Flow → Shared → Prop) (E : Value → Shared → Prop) (mx : Str → Option Value) (B : Below callerA h₀ [] h₀) (X : Frag.In (KK w.params) h₀) (T : Top VV (looseW VV []) mean mg mb h₀) (hE : PassesOwn (model PySem.Challenge.rw_nz0117_01.row.prog w) (callerA.deeper (envOfC lawD.name lawD.scope L fa (Value.ref cc))) (envOfC lawD.name lawD.scope L fa (Value.ref cc)) E) (hret : ∀ h' tk m', Fr h₀ L h' m' → Q (.ret (.bool true)) { s with heap := h', toks := tk }) {n wy : Int} {tn tw : Tok} {pen cells : Addr} {c : PN} {R0 : Led} {oc : Obj} {v0 : Option Value} (hoc : oc.data = .cell v0)
    (F : Fr h₀ L s.heap (fun y => if y = Str.ofString "count" then some (.int n tn) else if y = Str.ofString "way" then some (.int wy tw) else if y = Str.ofString "pen" then some (.ref pen) else mx y))
    (N : News h₀ L s.heap ((pen, penObj cells c) :: (L + 1, oc) :: R0)) (nd : ND ((pen, penObj cells c) :: (L + 1, oc) :: R0)) (hA : PenA R0 cells) (hc : PNok c 2) (h1 : 1 ≤ n) (h7 : n ≤ 7) (hw0 : 0 ≤ wy) (hw1 : wy < 2) :
    wpAny (model PySem.Challenge.rw_nz0117_01.row.prog w) (callerA.deeper (envOfC lawD.name lawD.scope L fa (Value.ref cc))) (execs (List.drop 3 lawD.body) (envOfC lawD.name lawD.scope L fa (Value.ref cc))) Q E s := by
  k_with_none
  k_with "call ref" => (k_here; (with_reducible show wpAny _ _ (call (Value.ref 542) _) _ _ _); k_dflt (refine' use_spec (draw_a _ _ _ _ _ _ _ _ ?h1_u26 ?h2_u26 ?h5_u26 ?h6_u26 ?h7_u26 ?h8_u26) ?p0_u26 ?B0_u26 ?F0_u26 ?X0_u26 ?N0_u26 ?T0_u26 ?k0_u26 ?d0_u26 ?u0_u26 ?_; (case B0_u26 => k_asm); (case F0_u26 => k_asm); (case X0_u26 => k_asm); (case N0_u26 => k_asm); (case T0_u26 => k_asm); (case k0_u26 => first | exact rfl | assumption); (case p0_u26 => tb_start); (case h2_u26 => first | assumption | exact PenA.mono (by assumption) (by first | k_sub | (intro p9_u26 h9_u26; k_mem))); (case h5_u26 => assumption); (case h1_u26 => first | assumption | (rename News _ _ _ _ => N7_u26; exact nd_of N7_u26 (by tb_start) (by k_ownIn))); (case h6_u26 => omega); (case h7_u26 => omega); (case h8_u26 => omega); (case d0_u26 => ktr_room); (case u0_u26 => ktr_units); k_whole); intro r9_u26 n9_u26 h9_u26 t9_u26 P9_u26 F9_u26 N9_u26; obtain ⟨d8_u26, t8_u26, c8_u26, e8_u26, d08_u26, d18_u26, e9_u26, ok8_u26, nd8_u26⟩ := P9_u26; subst n9_u26; subst e8_u26; (try k_sweep); (try dsimp only); (try k_fold))
  k_with "exec For Name Call cons nil" => (k_here; (rename Fr _ _ _ _ => lF'); (with_unfolding_all refine' For_invVF lF' ?k15 ?k25 ?_ (hE := hE); (case k15 => exact rfl); (case k25 => exact rfl); k_whole))
  k_with "pyIter ref" => (
    (rename Fr _ _ _ _ => lF'); (rename News _ _ _ ((_, _) :: _) => lN'); (rename AllLt _ ((pen, _) :: _) => al9); (rename IsRange _ _ _ _ _ _ _ _ => rgX);
    (with_unfolding_all refine' for_range (σ := SA) (fun m _ => m) (ldA w.params _ pen cells ((L + 1, oc) :: R0)) (OkA w.params _ pen cells ((L + 1, oc) :: R0)) (c₀ := ⟨[], c, 0⟩) (by rfl) rgX (small_one (by l_bnd) (by l_bnd) (by l_bnd) (by l_bnd)) (rangeSize_nat _ _) lF' lN' (OkA.start hc (ND.cons al9 nd)) ?turn5 ?done5);
    (case' turn5 => (rintro i9 u9 ⟨rs9, c9, ep9⟩ hh9 tk9 I9 oI9 hi9 hP9 hn9 F9 N9; (have nd9 := ND.ne (o := oI9) hn9 hP9.nd); (have gl9 := hP9.gl); (have pk9 := hP9.pk); (have ln9 := hP9.len); dsimp only [ldA] at nd9 N9 hn9; dsimp only at gl9 pk9 ln9; clear lF' lN' al9));
    (case' done5 => (rintro ⟨rs9, c9, ep9⟩ u9 hh9 tk9 hP9 F9 N9; refine stopP ?_)))
  k_with "call builtin:list.append" => (k_here; k_dflt (refine' append_p ?F6 ?N6 ?p6 ?nd6 ?z6 ?_; (case F6 => k_asm); (case N6 => k_asm); (case p6 => tb_start); (case nd6 => rename News _ _ _ _ => N7; exact nd_of N7 (by tb_start) (by k_ownIn)); (case z6 => rw [rowOf_len]; omega); k_whole); intro h7 F7 N7 nd7)
  all_goals try k_fold
  k_steps
  rotate_left
  · obtain ⟨N8, nd8⟩ := ldA_next (IR.mk _ _ _ _ _ _ _ _ _ _ _ _ _ _ _ _ _ _ _ _ _ _ _ _ _ _ _ _ _ _ _ _ _ _ _ _ _ _ _ _) rfl rfl rfl N7 nd7
    exact ForW.go _ (by k_asm) N8 nd8.head (hP9.next ⟨by dsimp only; omega, by dsimp only; omega⟩ rfl (by assumption) nd8.tail)
  · exact law_Bx w mean mg mb h₀ fa cc L _ Q E _ B X T hE hret (Fr.own (x := Str.ofString "infos") (Fr.own (x := Str.ofString "count") (Fr.own (x := Str.ofString "way") (Fr.own (x := Str.ofString "pen") F9 rfl) rfl) rfl) rfl) N9 hP9.nd hoc hA (hP9.pk.mono (by omega)) h1 h7 (hP9.len.trans (by omega)) hP9.gl hP9.par hw0 hw1
end
theorem PenR.b {p0 : Addr × Obj} {r : Value} {n : Led} (h : PenR [p0] r n) : ∃ (pen cells : Addr) (c : PN) (R0 : Led), r = .ref pen ∧ n.Perm ((pen, penObj cells c) :: p0 :: R0) ∧ PenA R0 cells ∧ PNok c 0 ∧ ND ((pen, penObj cells c) :: p0 :: R0) := by
  obtain ⟨pen, cells, D, ys, ws, ms, g, st, tg, ts, tp, rfl, rfl, hi, hz, g0, g1, s0, s1, hn⟩ := h
  have hp : ((pen, listOf #[.ref cells, .int g tg, .int st ts, .int 0 tp] 0) :: (cells, listOf ys.toArray ys.length) :: (D, listOf ws.toArray 0) :: [p0] : Led).Perm ((pen, penObj cells ⟨g, st, 0, tg, ts, tp, 0⟩) :: p0 :: [(cells, listOf ys.toArray ys.length), (D, listOf ws.toArray 0)]) := List.Perm.cons _ (perm_b2 [])
  exact ⟨pen, cells, ⟨g, st, 0, tg, ts, tp, 0⟩, _, rfl, hp, ⟨⟨ys, ms, _, .head _, hi, hz⟩⟩, ⟨g0, g1, s0, s1, Int.le_refl _, Int.le_refl _⟩, ND.perm hp (hn ND.one)⟩
local macro_rules | `(tactic| walk_at "call ref") => `(tactic| k_extra "call ref")
local macro_rules | `(tactic| walk_at "execs cons Assign cons") => `(tactic| k_extra "execs cons")
local macro_rules | `(tactic| walk_at "execs cons") => `(tactic| k_extra "execs cons")
local macro_rules | `(tactic| w_nolog (first | (have $_x:ident := $_a:term) | (have $_y:ident := $_b:term))) => `(tactic| skip)
set_option maxHeartbeats 1000000 in
theorem walk : WT := by
  k_go0
  all_goals try k_fold
  rename Below _ _ _ _ => kB
  dsimp only [Top.heap] at kB
  rename (_ : Obj).data = Data.cell _ => hoc9
  rename Shared.gens _ = #[] => hg9
  rename Frag.In _ _ => kX9
  rename Top _ _ _ _ _ _ => kT9
  k_with_none
  k_with "call ref" => (k_here; (with_reducible show wpAny _ _ (call (Value.ref 542) _) _ _ _); k_dflt (refine' use_spec (draw_a _ _ _ _ _ _ _ _ ?h1_u26 ?h2_u26 ?h5_u26 ?h6_u26 ?h7_u26 ?h8_u26) ?p0_u26 ?B0_u26 ?F0_u26 ?X0_u26 ?N0_u26 ?T0_u26 ?k0_u26 ?d0_u26 ?u0_u26 ?_; (case B0_u26 => k_asm); (case F0_u26 => k_asm); (case X0_u26 => k_asm); (case N0_u26 => k_asm); (case T0_u26 => k_asm); (case k0_u26 => first | exact rfl | assumption); (case p0_u26 => tb_start); (case h2_u26 => first | assumption | exact PenA.mono (by assumption) (by first | k_sub | (intro p9_u26 h9_u26; k_mem))); (case h5_u26 => assumption); (case h1_u26 => first | assumption | (rename News _ _ _ _ => N7_u26; exact nd_of N7_u26 (by tb_start) (by k_ownIn))); (case h6_u26 => omega); (case h7_u26 => omega); (case h8_u26 => omega); (case d0_u26 => ktr_room); (case u0_u26 => ktr_units); k_whole); intro r9_u26 n9_u26 h9_u26 t9_u26 P9_u26 F9_u26 N9_u26; obtain ⟨d8_u26, t8_u26, c8_u26, e8_u26, d08_u26, d18_u26, e9_u26, ok8_u26, nd8_u26⟩ := P9_u26; subst n9_u26; subst e8_u26; (try k_sweep); (try dsimp only); (try k_fold))
  k_with "call ref" => (k_here; (with_reducible show wpAny _ _ (call (Value.ref 535) _) _ _ _); k_dflt (refine' use_pen ?i5 ?z5 ?hL5 ?B5 ?F5 ?X5 ?N5 ?T5 ?k5 ?d5 ?u5 ?_; (case hL5 => assumption); (case i5 => assumption); (case z5 => omega); (case B5 => k_asm); (case F5 => k_asm); (case X5 => k_asm); (case N5 => k_asm); (case T5 => k_asm); (case k5 => first | exact rfl | assumption); (case d5 => ktr_room); (case u5 => ktr_units); k_whole; (rename News _ _ _ _ => N4); (intro r4 n4 h4 t4 P4 F4 N4'); (obtain ⟨pen, cells, c4, R4, e4, p4, A4, K4, nd5⟩ := PenR.b P4); subst e4; (replace N4' := nperm p4 N4'); clear N4))
  k_with "execs cons" => ((with_reducible show wpAny _ _ (execs (Stmt.Assign _ (PySem.Expr.List [] _) _ :: _) _) _ _ _); refine stopP ?_)
  k_steps
  refine' law_Ax _ _ _ _ _ _ _ _ _ _ _ _ kB kX9 kT9 ?e1 ?e2 hoc9 ?e3 ?e4 ?e5 A4 (PNok.mono (by assumption) ?e6) ?e7 ?e8 ?e9 ?e10
  case e3 => k_asm
  case e4 => k_asm
  case e5 => assumption
  case e6 => omega
  case e7 => omega
  case e8 => omega
  case e9 => omega
  case e10 => omega
  case e1 => first | passes_own | with_unfolding_all passes_own
  case e2 =>
    intro h' tk m' F'
    first
    | exact goodW_bool F' hg9 (fun _ => rfl) (postW_of rfl (by first | rfl | with_unfolding_all rfl | (refine (w_eq_bool (w_res rfl) w_lit).trans ?_; rfl)))
    | exact goodW_bool F' hg9 (fun _ => rfl) (by with_unfolding_all rfl)
    | exact goodW_bool F' hg9 (fun _ => rfl) (by kernel_rfl)
    | (show GoodW _ _ _ _ _ _ _; w_end; wrow_close)
    | (show GoodW _ _ _ _ _ _ _; wrow_close)
    | (show GoodW _ _ _ _ _ _ _; w_report)
theorem hd.tw6818987989461384207 : True := trivial
theorem hd.tw17087091549796120035 : True := trivial
theorem hd.tw6924109203229866365 : True := trivial
theorem hd.tw15616948245753086127 : True := trivial
theorem hd.tw13047593935725612058 : True := trivial
theorem hd.tw8587404781116728655 : True := trivial
theorem hd.tw7519716089354478335 : True := trivial
theorem hd.tw14892549342360969540 : True := trivial
theorem hd.tw978945382295711627 : True := trivial
theorem hd.tw7523672394736509286 : True := trivial
theorem hd.tw4065347644161347641 : True := trivial
theorem hd.tw6293948785866598258 : True := trivial
theorem hd.tw5961118342813265553 : True := trivial
theorem hd.tw9641152695372364146 : True := trivial
theorem hd.tw18185175575083235020 : True := trivial
theorem hd.tw12591134339009171964 : True := trivial
theorem hd.tw10657642232665330674 : True := trivial
theorem hd.tw8068729725432388964 : True := trivial
theorem hd.tw10216474801634566288 : True := trivial
theorem hd.tw5148922909946612681 : True := trivial
theorem hd.tw5781342201191254626 : True := trivial
theorem hd.tw17711083657039698284 : True := trivial
theorem hd.tw5732804406350252772 : True := trivial
theorem hd.tw1452849714261714991 : True := trivial
theorem hd.tw16302227732802510677 : True := trivial
theorem hd.tw12631932088317031055 : True := trivial
theorem hd.tw14176624398918483544 : True := trivial
theorem hd.tw15043168886218598503 : True := trivial
theorem hd.tw10728610062214689732 : True := trivial
theorem hd.tw2867327485932766208 : True := trivial
theorem hd.tw10752148897807903841 : True := trivial
theorem hd.tw6990203504111849199 : True := trivial
theorem hd.tw15103106377680225435 : True := trivial
theorem hd.tw16649331688326792143 : True := trivial
theorem hd.tw3259873300814134281 : True := trivial
theorem hd.tw697623264460660564 : True := trivial
theorem hd.tw13372043803930879067 : True := trivial
theorem hd.tw4856431653887292112 : True := trivial
theorem hd.tw2216850387143573719 : True := trivial
theorem hd.tw461538923250603899 : True := trivial
theorem hd.tw6838551448383532254 : True := trivial
theorem hd.tw18241275227582772068 : True := trivial
theorem hd.tw1847840615245081061 : True := trivial
theorem hd.tw8671608845466749128 : True := trivial
theorem hd.tw14896477498954680388 : True := trivial
theorem hd.tw14727110085682223627 : True := trivial
theorem hd.tw8343274005884668182 : True := trivial
theorem hd.tw16772102934027710169 : True := trivial
theorem hd.tw13330244855972007585 : True := trivial
theorem hd.tw17599816209265215132 : True := trivial
theorem hd.tw2114630138375439770 : True := trivial
theorem hd.tw10012880186880212623 : True := trivial
theorem hd.tw7752767780024739350 : True := trivial
theorem hd.tw17650839729002327288 : True := trivial
theorem hd.tw7540741092611519060 : True := trivial
theorem hd.tw6528754448969337418 : True := trivial
theorem hd.tw14598272352848978880 : True := trivial
theorem hd.tw17447410573909459338 : True := trivial
theorem hd.tw8770205317985620760 : True := trivial
theorem hd.tw7540655947842036084 : True := trivial
theorem hd.tw4014540891139286612 : True := trivial
theorem hd.tw5567388512258382067 : True := trivial
theorem hd.tw12588582704262371052 : True := trivial
theorem hd.tw5282504435634884242 : True := trivial
theorem hd.tw11893437276241958245 : True := trivial
theorem hd.tw11953376511379268794 : True := trivial
theorem hd.tw1382963296337349011 : True := trivial
theorem hd.tw3182187488490625086 : True := trivial
theorem hd.tw18300207936620678264 : True := trivial
theorem hd.tw15368132723985388332 : True := trivial
theorem hd.tw13518370688599389936 : True := trivial
theorem hd.tw5363564295841288755 : True := trivial
theorem hd.tw5562173858411828344 : True := trivial
theorem hd.tw2167537188350426706 : True := trivial
theorem hd.tw7891253978561527248 : True := trivial
theorem hd.tw5278057926702712004 : True := trivial
theorem hd.tw13903934854276604550 : True := trivial
theorem hd.tw3915529967508079626 : True := trivial
theorem hd.tw6482722132109649516 : True := trivial
theorem hd.tw3480954088277226078 : True := trivial
theorem hd.tw8081886968326746073 : True := trivial
theorem hd.tw525622484199402719 : True := trivial
theorem hd.tw11631869004601391166 : True := trivial
theorem hd.tw14400467628812073631 : True := trivial
theorem hd.tw4115565904173853331 : True := trivial
theorem hd.tw10111801491309104144 : True := trivial
theorem hd.tw6982297934935202809 : True := trivial
theorem hd.tw7721951785955056133 : True := trivial
theorem hd.tw10525666975642140466 : True := trivial
theorem hd.tw7510230149288206974 : True := trivial
theorem hd.tw8493152586797012548 : True := trivial
theorem hd.tw2502866573005156581 : True := trivial
theorem hd.tw12901994302517312135 : True := trivial
theorem hd.tw5987830557187376847 : True := trivial
theorem hd.tw2195365466389143174 : True := trivial
theorem hd.tw13225837485096350037 : True := trivial
theorem hd.tw7628703163842673926 : True := trivial
theorem hd.tw3759623122121258479 : True := trivial
theorem hd.tw1865391376527767206 : True := trivial
theorem hd.tw16155205043701107222 : True := trivial
theorem hd.tw8117029840178788049 : True := trivial
theorem hd.tw8545014587354053640 : True := trivial
theorem hd.tw9427301549700849589 : True := trivial
theorem hd.tw9421340871869096474 : True := trivial
theorem hd.tw7610815399733428385 : True := trivial
theorem hd.tw1882180444382439491 : True := trivial
theorem hd.tw701787995468756871 : True := trivial
theorem hd.tw7914949630228597729 : True := trivial
theorem hd.tw7676003278276379012 : True := trivial
theorem hd.tw190519026028168232 : True := trivial
theorem hd.tw16056359734778111409 : True := trivial
theorem hd.tw920214292312260371 : True := trivial
theorem hd.tw9277588360372424766 : True := trivial
theorem hd.tw15463257786427224491 : True := trivial
theorem hd.tw17420951861521290806 : True := trivial
theorem hd.tw16391229813045661084 : True := trivial
theorem hd.tw9783614193127449063 : True := trivial
theorem hd.tw8965841893048198262 : True := trivial
theorem hd.tw13483081372092288885 : True := trivial
theorem hd.tw8977307856219701671 : True := trivial
theorem hd.tw4706079058837389440 : True := trivial
theorem hd.tw14060154772996877548 : True := trivial
theorem hd.tw7654286748164834634 : True := trivial
theorem hd.tw9244321171653502345 : True := trivial
theorem hd.tw3673089383077640791 : True := trivial
theorem hd.tw4993660671451451078 : True := trivial
theorem hd.tw3085183777334472315 : True := trivial
theorem hd.tw1129884963351977449 : True := trivial
theorem hd.tw5716766192118558609 : True := trivial
theorem hd.tw7085514621470718492 : True := trivial
theorem hd.tw16006246977917349235 : True := trivial
theorem hd.tw13855946660403688772 : True := trivial
theorem hd.tw10258999931320997221 : True := trivial
theorem hd.tw10170382586518783626 : True := trivial
theorem hd.tw15166520500009309586 : True := trivial
theorem hd.tw17574625026820762457 : True := trivial
theorem hd.tw16794629799341752650 : True := trivial
theorem hd.tw11011131195910976488 : True := trivial
theorem hd.tw16412773359747925120 : True := trivial
theorem hd.tw9557236495431379559 : True := trivial
theorem hd.tw4172343393113369950 : True := trivial
theorem hd.tw7366208706002141716 : True := trivial
theorem hd.tw16945582573551092051 : True := trivial
theorem hd.tw9430268157657104642 : True := trivial
theorem hd.tw8004679753235328684 : True := trivial
theorem hd.tw12058812876911547015 : True := trivial
theorem hd.tw17130151131035750659 : True := trivial
theorem hd.tw16853341256802265648 : True := trivial
theorem hd.tw13217225542625558698 : True := trivial
theorem hd.tw9386895884608548742 : True := trivial
theorem hd.tw1588505670450824345 : True := trivial
theorem hd.tw15527848837575444561 : True := trivial
theorem hd.tw14768889098011018680 : True := trivial
theorem hd.tw13638418597567726942 : True := trivial
theorem hd.tw3381375190539634487 : True := trivial
theorem hd.tw17583777857740559676 : True := trivial
theorem hd.tw17986969038992634876 : True := trivial
theorem hd.tw13828106393651249627 : True := trivial
theorem hd.tw17588044629489971554 : True := trivial
theorem hd.tw6906073325868019850 : True := trivial
theorem hd.tw16473244170626142550 : True := trivial
theorem hd.tw226724450230711188 : True := trivial
theorem hd.tw14960593345356199642 : True := trivial
theorem hd.tw10743916045514856203 : True := trivial
theorem hd.tw10784824025267889561 : True := trivial
theorem hd.tw14705683404202351889 : True := trivial
theorem hd.tw15508949281206285077 : True := trivial
theorem hd.tw3404104791013757517 : True := trivial
theorem hd.tw2304311442786299043 : True := trivial
theorem hd.tw4272726840584523970 : True := trivial
theorem hd.tw12487502673411948298 : True := trivial
theorem hd.tw16828841361933241965 : True := trivial
theorem hd.tw15595854959937240912 : True := trivial
theorem hd.tw15083628210047938546 : True := trivial
theorem hd.tw6196171512934965099 : True := trivial
theorem hd.tw17950676927832955104 : True := trivial
theorem hd.tw1102719854795613173 : True := trivial
theorem hd.tw13642289790063256904 : True := trivial
theorem hd.tw10458740792067480800 : True := trivial
theorem hd.tw3219085151875037572 : True := trivial
theorem hd.tw1506431575118746342 : True := trivial
theorem hd.tw17183224562656869120 : True := trivial
theorem hd.tw13866372431405929976 : True := trivial
theorem hd.tw15833661619300960221 : True := trivial
theorem hd.tw12112201142124510154 : True := trivial
theorem hd.tw13038990169509382042 : True := trivial
theorem hd.tw17213754286329925777 : True := trivial
theorem hd.tw16091413853298234908 : True := trivial
theorem hd.tw5238241317806426387 : True := trivial
theorem hd.tw3530705653197291679 : True := trivial
theorem hd.tw16904818350239718627 : True := trivial
theorem hd.tw4282304852377368616 : True := trivial
theorem hd.tw1712922718373300912 : True := trivial
theorem hd.tw13322179722446271537 : True := trivial
theorem hd.tw6820862383352777685 : True := trivial
theorem hd.tw402640490398009360 : True := trivial
theorem hd.tw15837987909243819085 : True := trivial
theorem hd.tw8960069828448710407 : True := trivial
theorem hd.tw7120233287515763914 : True := trivial
theorem hd.tw7763873220885509757 : True := trivial
theorem hd.tw6882427118574961969 : True := trivial
theorem hd.tw6276725880618359904 : True := trivial
theorem hd.tw2845679848157327705 : True := trivial
theorem hd.tw991583007596301734 : True := trivial
theorem hd.tw15279998641719260112 : True := trivial
theorem hd.tw5505005885091257285 : True := trivial
theorem hd.tw18293851220164018083 : True := trivial
theorem hd.tw13466754112058979494 : True := trivial
theorem hd.tw4478166936697009375 : True := trivial
theorem hd.tw15048261121198461528 : True := trivial
theorem hd.tw1589133516308662214 : True := trivial
theorem hd.tw17491280204586788870 : True := trivial
theorem hd.tw13431754692932380062 : True := trivial
theorem hd.tw5174551420813472067 : True := trivial
theorem hd.tw15895093082480949185 : True := trivial
theorem hd.tw1610171440888473627 : True := trivial
theorem hd.tw18103342009636024947 : True := trivial
theorem hd.tw15967140613478806237 : True := trivial
theorem hd.tw16194383521188589630 : True := trivial
theorem hd.tw1699103778626983548 : True := trivial
theorem hd.tw189712035060473897 : True := trivial
theorem hd.tw11210553801493137410 : True := trivial
theorem hd.tw17387473266821786944 : True := trivial
theorem hd.tw13220430256171166289 : True := trivial
theorem hd.tw6123773746684550334 : True := trivial
theorem hd.tw7068711184596962023 : True := trivial
theorem hd.tw1413172679324656950 : True := trivial
theorem hd.tw9719896912496429819 : True := trivial
theorem hd.tw3039998526598829958 : True := trivial
theorem hd.tw5902613922787404954 : True := trivial
theorem hd.tw9908193460736022307 : True := trivial
theorem hd.tw442638132926106271 : True := trivial
theorem hd.tw11295491800424472312 : True := trivial
theorem hd.tw8428860471423672150 : True := trivial
theorem hd.tw10583446816852156582 : True := trivial
theorem hd.tw10030107230732127627 : True := trivial
theorem hd.tw12949589719889679912 : True := trivial
theorem hd.tw8879563391730754479 : True := trivial
theorem hd.tw17413551345404909392 : True := trivial
theorem hd.tw8268277133935991078 : True := trivial
theorem hd.tw10246146449241189800 : True := trivial
theorem hd.tw18293269684757346571 : True := trivial
theorem hd.tw7512474625130614241 : True := trivial
theorem hd.tw16259696140248634718 : True := trivial
theorem hd.tw15089522573102190283 : True := trivial
theorem hd.tw11917015161858427179 : True := trivial
theorem hd.tw7382370116671421104 : True := trivial
theorem hd.tw9748044761591592747 : True := trivial
theorem hd.tw18166333605607142505 : True := trivial
theorem hd.tw11513968764499736323 : True := trivial
theorem hd.tw16299908979028503884 : True := trivial
theorem hd.tw1359830224848277088 : True := trivial
theorem hd.tw12744807935193187038 : True := trivial
theorem hd.tw11079593142295127227 : True := trivial
theorem hd.tw11054480109507316185 : True := trivial
theorem hd.tw2327210489368252092 : True := trivial
theorem hd.tw14560493823538711346 : True := trivial
theorem hd.tw2386827423013361158 : True := trivial
theorem hd.tw100483095206116625 : True := trivial
theorem hd.tw5480042469492414594 : True := trivial
theorem hd.tw16634568088961857937 : True := trivial
theorem hd.tw9398405308114057262 : True := trivial
theorem hd.tw5629675986466331604 : True := trivial
theorem hd.tw13790719812936386609 : True := trivial
theorem hd.tw10919297434634762262 : True := trivial
theorem hd.tw17919194246423945575 : True := trivial
theorem hd.tw2315301623876862497 : True := trivial
theorem hd.tw2101469004524951375 : True := trivial
theorem hd.tw9702936160620672325 : True := trivial
theorem hd.tw7579377964693751086 : True := trivial
theorem hd.tw8934143017859847078 : True := trivial
theorem hd.tw8025032847418708242 : True := trivial
theorem hd.tw12575139184659369484 : True := trivial
theorem hd.tw15422856539912107476 : True := trivial
theorem hd.tw9483488259628991918 : True := trivial
theorem hd.tw1013155817946168525 : True := trivial
theorem hd.tw1836080755315867724 : True := trivial
theorem hd.tw17330945745186091897 : True := trivial
theorem hd.tw16970440968685349367 : True := trivial
theorem hd.tw9238054882214053769 : True := trivial
theorem hd.tw4870687313549177768 : True := trivial
theorem hd.tw13855881374063213867 : True := trivial
theorem hd.tw1011335219593555734 : True := trivial
theorem hd.tw5292301768408028288 : True := trivial
theorem hd.tw8609351116199087170 : True := trivial
theorem hd.tw6965799899956892507 : True := trivial
theorem hd.tw18093812233618175256 : True := trivial
theorem hd.tw12399718760709695909 : True := trivial
theorem hd.tw1222794163293265305 : True := trivial
theorem hd.tw13409441903868389331 : True := trivial
theorem hd.tw5054737718236178183 : True := trivial
theorem hd.tw9763420282994701918 : True := trivial
theorem hd.tw8735263284916673568 : True := trivial
theorem hd.tw17893044597097874663 : True := trivial
theorem hd.tw13267510147771200024 : True := trivial
theorem hd.tw11032806212648032379 : True := trivial
theorem hd.tw14906377314874228009 : True := trivial
theorem hd.tw15042006015671813226 : True := trivial
theorem hd.tw6931407450589930559 : True := trivial
theorem hd.tw8112040973832200146 : True := trivial
theorem hd.tw15910714762333108613 : True := trivial
theorem hd.tw16640546478005224243 : True := trivial
theorem hd.tw18343703819029505601 : True := trivial
theorem hd.tw17681399029576232318 : True := trivial
theorem hd.tw8959176491354863721 : True := trivial
theorem hd.tw2930668341846507884 : True := trivial
theorem hd.tw13277076834127875243 : True := trivial
theorem hd.tw13783031573616600631 : True := trivial
theorem hd.tw15220180469806662145 : True := trivial
theorem hd.tw280609765759037681 : True := trivial
theorem hd.tw5511420028821071320 : True := trivial
theorem hd.tw13315533130655954831 : True := trivial
theorem hd.tw12614811148066621264 : True := trivial
theorem hd.tw13289513938125300765 : True := trivial
theorem hd.tw12127338746724423809 : True := trivial
theorem hd.tw9741134391959003819 : True := trivial
theorem hd.tw9496365245306024149 : True := trivial
theorem hd.tw14553816603554493358 : True := trivial
theorem hd.tw5009564483982726761 : True := trivial
theorem hd.tw17234923516513369237 : True := trivial
theorem hd.tw4383666589626881386 : True := trivial
theorem hd.tw10949625832625181284 : True := trivial
theorem hd.tw15813434630575017362 : True := trivial
theorem hd.tw16722109127936396110 : True := trivial
theorem hd.tw12070654863422294720 : True := trivial
theorem hd.tw11402939732021071671 : True := trivial
theorem hd.tw5608270528595127837 : True := trivial
theorem hd.tw6411954120941647267 : True := trivial
theorem hd.tw16713699803418581334 : True := trivial
theorem hd.tw8516288146210602744 : True := trivial
theorem hd.tw922143313871775805 : True := trivial
theorem hd.tw14168552714766633299 : True := trivial
theorem hd.tw10792051664901133789 : True := trivial
theorem hd.tw2391449824757734642 : True := trivial
theorem hd.tw17258206423299326598 : True := trivial
theorem hd.tw15416985209724490359 : True := trivial
theorem hd.tw9298403506768410418 : True := trivial
theorem hd.tw12070051907170230399 : True := trivial
theorem hd.tw11232374478483605306 : True := trivial
theorem hd.tw17562767543260142214 : True := trivial
theorem hd.tw10860895700388868024 : True := trivial
theorem hd.tw9345676750909349944 : True := trivial
theorem hd.tw11587034568685482758 : True := trivial
theorem hd.tw2442259710966052079 : True := trivial
theorem hd.tw2603259988358896889 : True := trivial
theorem hd.tw2999033326186475339 : True := trivial
theorem hd.tw185848376630758926 : True := trivial
theorem hd.tw17843490464661113860 : True := trivial
theorem hd.tw17714235663813219645 : True := trivial
theorem hd.tw5366084841770067474 : True := trivial
theorem hd.tw8789358453043137523 : True := trivial
theorem hd.tw14745743045033390146 : True := trivial
theorem hd.tw10614716105012338702 : True := trivial
theorem hd.tw4315991029959535628 : True := trivial
theorem hd.tw6896469178606551848 : True := trivial
theorem hd.tw6019021122589006684 : True := trivial
theorem hd.tw1800889605409440832 : True := trivial
theorem hd.tw9960721518486171458 : True := trivial
theorem hd.tw8990313861142287110 : True := trivial
theorem hd.tw16007149819294483003 : True := trivial
theorem hd.tw7153062008950511462 : True := trivial
theorem hd.tw5036846961687405229 : True := trivial
theorem hd.tw8134915037123179040 : True := trivial
theorem hd.tw845060206244984605 : True := trivial
theorem hd.tw17903497710992402801 : True := trivial
theorem hd.tw9345929723534960622 : True := trivial
theorem hd.tw4390796290334881974 : True := trivial
theorem hd.tw17948085552500728524 : True := trivial
theorem hd.tw17054507655720011243 : True := trivial
theorem hd.tw5416991563250132298 : True := trivial
theorem hd.tw6412100933407834118 : True := trivial
theorem hd.tw11389486352061984695 : True := trivial
theorem hd.tw1760603350576429475 : True := trivial
theorem hd.tw16920754564084929960 : True := trivial
theorem hd.tw519851828213033955 : True := trivial
theorem hd.tw10491609206876299696 : True := trivial
theorem hd.tw6804821044290156842 : True := trivial
theorem hd.tw13321331477185743149 : True := trivial
theorem hd.tw12273058598527411343 : True := trivial
theorem hd.tw13893168526513508166 : True := trivial
theorem hd.tw1848646778235469078 : True := trivial
theorem hd.tw6759412095888398321 : True := trivial
theorem hd.tw5646927083114240164 : True := trivial
theorem hd.tw1600037746751723098 : True := trivial
theorem hd.tw8458067239894703972 : True := trivial
theorem hd.tw8226494294326810461 : True := trivial
theorem hd.tw11251137523995926341 : True := trivial
theorem hd.tw13770079208771991547 : True := trivial
theorem hd.tw17739348878880393726 : True := trivial
theorem hd.tw15790720579355451973 : True := trivial
theorem hd.tw11319892378374348655 : True := trivial
theorem hd.tw13263762954130075895 : True := trivial
theorem hd.tw3452082135128663414 : True := trivial
theorem hd.tw728884934406724761 : True := trivial
theorem hd.tw17606422857730326317 : True := trivial
theorem hd.tw13368278939475635651 : True := trivial
theorem hd.tw11465210709893060100 : True := trivial
theorem hd.tw13844380318115746083 : True := trivial
theorem hd.tw3451239065008710300 : True := trivial
theorem hd.tw15344866539931968096 : True := trivial
theorem hd.tw18291419657060728153 : True := trivial
theorem hd.tw11319097763535126812 : True := trivial
theorem hd.tw10738003575532504788 : True := trivial
theorem hd.tw15759970867653108152 : True := trivial
theorem hd.tw6407587892757256292 : True := trivial
theorem hd.tw15411387601460861337 : True := trivial
theorem hd.tw8184699220007379433 : True := trivial
theorem hd.tw4086058157674990017 : True := trivial
theorem hd.tw797944442704176489 : True := trivial
theorem hd.tw12239354291974867115 : True := trivial
theorem hd.tw395138700845864316 : True := trivial
theorem hd.tw7494724483528729301 : True := trivial
theorem hd.tw4159134105002834734 : True := trivial
theorem hd.tw9228397985900620932 : True := trivial
theorem hd.tw9673543361469618366 : True := trivial
theorem hd.tw8457440626546761165 : True := trivial
theorem hd.tw6082411064634330575 : True := trivial
theorem hd.tw2799067240506288376 : True := trivial
theorem hd.tw9566141503761928105 : True := trivial
theorem hd.tw16157073509204512506 : True := trivial
theorem hd.tw15529170255622000948 : True := trivial
theorem hd.tw15946388913382835224 : True := trivial
theorem hd.tw13181700845877081190 : True := trivial
theorem hd.tw16345102440705955213 : True := trivial
theorem hd.tw12647368939536790636 : True := trivial
theorem hd.tw1197925565968671727 : True := trivial
theorem hd.tw15673258824015622330 : True := trivial
theorem hd.tw13323071517005850279 : True := trivial
theorem hd.tw11754176132448286083 : True := trivial
theorem hd.tw3493717111155160527 : True := trivial
theorem hd.tw18103420901670897651 : True := trivial
theorem hd.tw2783992281797965187 : True := trivial
theorem hd.tw22551697357593593 : True := trivial
theorem hd.tw6291416237084387574 : True := trivial
theorem hd.tw3795277891434052102 : True := trivial
theorem hd.tw6868836192036940282 : True := trivial
theorem hd.tw11801993109049149486 : True := trivial
theorem hd.tw9533747618267967006 : True := trivial
theorem hd.tw6547078798241139092 : True := trivial
theorem hd.tw7355570028127101125 : True := trivial
theorem hd.tw6767318904944593275 : True := trivial
theorem hd.tw10601615944963115059 : True := trivial
theorem hd.tw7296583596125217682 : True := trivial
theorem hd.tw10678649693572172417 : True := trivial
theorem hd.tw14478148883734587675 : True := trivial
theorem hd.tw12271959270614036898 : True := trivial
theorem hd.tw2608437505485318709 : True := trivial
theorem hd.tw541196102884509978 : True := trivial
theorem hd.tw15852365999677673905 : True := trivial
theorem hd.tw3646829019195819677 : True := trivial
theorem hd.tw18264374347568628810 : True := trivial
theorem hd.tw4971549296188076032 : True := trivial
theorem hd.tw17177331786930743035 : True := trivial
theorem hd.tw758273949599710562 : True := trivial
theorem hd.tw7289634563603522867 : True := trivial
theorem hd.tw17542962492245011380 : True := trivial
theorem hd.tw17252143746492648416 : True := trivial
theorem hd.tw17377529257436501650 : True := trivial
theorem hd.tw6184460063843016694 : True := trivial
theorem hd.tw14457593812595234344 : True := trivial
theorem hd.tw5343241284826551009 : True := trivial
theorem hd.tw2323474266016966308 : True := trivial
theorem hd.tw11162318198679636149 : True := trivial
theorem hd.tw6264232113106981867 : True := trivial
theorem hd.tw18219297243305740317 : True := trivial
theorem hd.tw4702841417184801058 : True := trivial
theorem hd.tw11009917854222514473 : True := trivial
theorem hd.tw15367242080415987702 : True := trivial
theorem hd.tw11136197038861592535 : True := trivial
theorem hd.tw11660266114150955751 : True := trivial
theorem hd.tw6442067068224118133 : True := trivial
theorem hd.tw16477043939570097188 : True := trivial
theorem hd.tw16171809288044610508 : True := trivial
theorem hd.tw15615420239508185596 : True := trivial
theorem hd.tw3229955645248102723 : True := trivial
theorem hd.tw10603584201595350602 : True := trivial
theorem hd.tw15948780112781908787 : True := trivial
theorem hd.tw14980023328507725902 : True := trivial
theorem hd.tw12602439190401603521 : True := trivial
theorem hd.tw11151547217846952531 : True := trivial
theorem hd.tw2887051446865420828 : True := trivial
theorem hd.tw9657781627882305391 : True := trivial
theorem hd.tw2068664650715991707 : True := trivial
theorem hd.tw2329189449893159454 : True := trivial
theorem hd.tw2788664435532181463 : True := trivial
theorem hd.tw6230570408872484743 : True := trivial
theorem hd.tw14852329139284432860 : True := trivial
theorem hd.tw14103535550066685397 : True := trivial
theorem hd.tw8356816923877370021 : True := trivial
theorem hd.tw15683763237869141255 : True := trivial
theorem hd.tw4297731678662094536 : True := trivial
theorem hd.tw5283464899586487735 : True := trivial
theorem hd.tw7028611270464810887 : True := trivial
theorem hd.tw14246236162039180721 : True := trivial
theorem hd.tw16011055738799735888 : True := trivial
theorem hd.tw14861140272068304995 : True := trivial
theorem hd.tw1194904439430580092 : True := trivial
theorem hd.tw4654797750381630734 : True := trivial
theorem hd.tw12113243949977362033 : True := trivial
theorem hd.tw9153386212771759811 : True := trivial
theorem hd.tw8228950375871286339 : True := trivial
theorem hd.tw6578402527460240241 : True := trivial
theorem hd.tw16064382804478563927 : True := trivial
theorem hd.tw6394381022753523788 : True := trivial
theorem hd.tw17062030032774818151 : True := trivial
theorem hd.tw6305734824756694309 : True := trivial
theorem hd.tw2252305205657439004 : True := trivial
theorem hd.tw2708950531961675432 : True := trivial
theorem hd.tw4494801613693538912 : True := trivial
theorem hd.tw7526368328331116154 : True := trivial
theorem hd.tw10424393626065333798 : True := trivial
theorem hd.tw11551083187376567056 : True := trivial
theorem hd.tw5968076265448014739 : True := trivial
theorem hd.tw6438293893037913957 : True := trivial
theorem hd.tw3429492842335990350 : True := trivial
set_option Elab.async true in
set_option maxHeartbeats 8000000 in
theorem hd : PySem.Challenge.rw_nz0117_01.Holds := by
  w_on
  o_law
  o_head (kHook KK KA KK_as)
  (case hw => w_witness2)
  exact walk
end Mine
theorem PySem.Challenge.cw_nz0117_01_holds : PySem.Challenge.rw_nz0117_01.Holds :=
  Mine.hd
