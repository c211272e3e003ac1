import PyProof.Rows.All
import Wide.All
import OpenK.AllK
import Wide.FinOn
import Lean
import PySem.Challenge.RW_nu0171_01
open PySem PySem.W PyProof.Rows
set_option Elab.async false
set_option maxRecDepth 100000
set_option maxHeartbeats 8000000
namespace Mine
open PySem.Calls PyProof.V PySem.Spec
theorem calm00 : True := by
  w_top off
  exact trivial
noncomputable def nthS : List Stmt → Nat → Stmt
  | [], _ => default
  | s :: _, 0 => s
  | _ :: r, n + 1 => nthS r n
/-- the statement at a place of the text; of a class's block -/
noncomputable def fd (i : Nat) : Stmt := nthS PySem.Challenge.pw_nu0171_01.main.body i
noncomputable def fm (i j : Nat) : Stmt := match fd i with
  | .ClassDef _ _ _ b _ _ _ _ _ _ _ => nthS b j
  | s => s
noncomputable def fO (d : Stmt) (q md : Str) (t : Nat) (c : Addr) (dv : Value) : Obj := match d with
  | .FunctionDef n ps b _ _ _ sc _ _ _ => { cls := Value.type "function", data := Data.func { name := n, qualname := q, params := ps, body := FuncBody.stmts b, scope := sc, globals := 3, closure := [], defaults := dv, kwdefaults := Value.none, pyModule := Value.str md t, code := Value.ref c } }
  | _ => default
noncomputable def heapK : Params → Frag := fun P =>
  (nat_lit 2, { cls := Value.none, data := Data.dict #[] }) ::
  (nat_lit 3, { cls := Value.type "dict", data := Data.dict #[{ hash := PyData.keyHash P (Str.ofString "__name__"), key := Value.str (Str.ofString "__name__") 165, val := Value.str (Str.ofString "law_nu0171_01") 740 }, { hash := PyData.keyHash P (Str.ofString "__doc__"), key := Value.str (Str.ofString "__doc__") 166, val := Value.none }, { hash := PyData.keyHash P (Str.ofString "__package__"), key := Value.str (Str.ofString "__package__") 167, val := Value.none }, { hash := PyData.keyHash P (Str.ofString "__loader__"), key := Value.str (Str.ofString "__loader__") 168, val := Value.builtin "__main__.__loader__#opaque" }, { hash := PyData.keyHash P (Str.ofString "__spec__"), key := Value.str (Str.ofString "__spec__") 169, val := Value.none }, { hash := PyData.keyHash P (Str.ofString "__annotations__"), key := Value.str (Str.ofString "__annotations__") 170, val := Value.ref 6 }, { hash := PyData.keyHash P (Str.ofString "__builtins__"), key := Value.str (Str.ofString "__builtins__") 171, val := Value.ref 4 }, { hash := PyData.keyHash P (Str.ofString "__file__"), key := Value.str (Str.ofString "__file__") 173, val := Value.str (Str.ofString "/claim/cut.py") 172 }, { hash := PyData.keyHash P (Str.ofString "__cached__"), key := Value.str (Str.ofString "__cached__") 174, val := Value.none }, { hash := PyData.keyHash P (Str.ofString "_wall"), key := Value.str (Str.ofString "_wall") 193, val := Value.ref 21 }, { hash := PyData.keyHash P (Str.ofString "IGNORE_BASES"), key := Value.str (Str.ofString "IGNORE_BASES") 197, val := Value.int 2 196 }, { hash := PyData.keyHash P (Str.ofString "IGNORE_LIGATURES"), key := Value.str (Str.ofString "IGNORE_LIGATURES") 199, val := Value.int 4 198 }, { hash := PyData.keyHash P (Str.ofString "IGNORE_MARKS"), key := Value.str (Str.ofString "IGNORE_MARKS") 201, val := Value.int 8 200 }, { hash := PyData.keyHash P (Str.ofString "USE_SET"), key := Value.str (Str.ofString "USE_SET") 203, val := Value.int 16 202 }, { hash := PyData.keyHash P (Str.ofString "Lookup"), key := Value.str (Str.ofString "Lookup") 244, val := Value.ref 43 }, { hash := PyData.keyHash P (Str.ofString "Scene"), key := Value.str (Str.ofString "Scene") 284, val := Value.ref 65 }, { hash := PyData.keyHash P (Str.ofString "attach_wanted"), key := Value.str (Str.ofString "attach_wanted") 291, val := Value.ref 76 }, { hash := PyData.keyHash P (Str.ofString "class_bit"), key := Value.str (Str.ofString "class_bit") 298, val := Value.ref 83 }, { hash := PyData.keyHash P (Str.ofString "is_ignored"), key := Value.str (Str.ofString "is_ignored") 309, val := Value.ref 90 }, { hash := PyData.keyHash P (Str.ofString "passes"), key := Value.str (Str.ofString "passes") 317, val := Value.ref 97 }, { hash := PyData.keyHash P (Str.ofString "KINDS_IN_INPUT"), key := Value.str (Str.ofString "KINDS_IN_INPUT") 322, val := Value.ref 98 }, { hash := PyData.keyHash P (Str.ofString "KINDS_AROUND"), key := Value.str (Str.ofString "KINDS_AROUND") 326, val := Value.ref 99 }, { hash := PyData.keyHash P (Str.ofString "fits"), key := Value.str (Str.ofString "fits") 334, val := Value.ref 106 }, { hash := PyData.keyHash P (Str.ofString "neighbour"), key := Value.str (Str.ofString "neighbour") 344, val := Value.ref 113 }, { hash := PyData.keyHash P (Str.ofString "next_at"), key := Value.str (Str.ofString "next_at") 352, val := Value.ref 120 }, { hash := PyData.keyHash P (Str.ofString "before_at"), key := Value.str (Str.ofString "before_at") 360, val := Value.ref 127 }, { hash := PyData.keyHash P (Str.ofString "is_borne"), key := Value.str (Str.ofString "is_borne") 368, val := Value.ref 134 }, { hash := PyData.keyHash P (Str.ofString "found_at"), key := Value.str (Str.ofString "found_at") 382, val := Value.ref 141 }, { hash := PyData.keyHash P (Str.ofString "input_at"), key := Value.str (Str.ofString "input_at") 394, val := Value.ref 148 }, { hash := PyData.keyHash P (Str.ofString "last_at"), key := Value.str (Str.ofString "last_at") 406, val := Value.ref 155 }, { hash := PyData.keyHash P (Str.ofString "ahead_at"), key := Value.str (Str.ofString "ahead_at") 415, val := Value.ref 162 }, { hash := PyData.keyHash P (Str.ofString "back_at"), key := Value.str (Str.ofString "back_at") 424, val := Value.ref 169 }, { hash := PyData.keyHash P (Str.ofString "Info"), key := Value.str (Str.ofString "Info") 485, val := Value.ref 200 }, { hash := PyData.keyHash P (Str.ofString "Buffer"), key := Value.str (Str.ofString "Buffer") 543, val := Value.ref 246 }, { hash := PyData.keyHash P (Str.ofString "ClassDef"), key := Value.str (Str.ofString "ClassDef") 605, val := Value.ref 293 }, { hash := PyData.keyHash P (Str.ofString "Coverage"), key := Value.str (Str.ofString "Coverage") 662, val := Value.ref 335 }, { hash := PyData.keyHash P (Str.ofString "NO_CLASS"), key := Value.str (Str.ofString "NO_CLASS") 666, val := Value.int 0 665 }, { hash := PyData.keyHash P (Str.ofString "BASE"), key := Value.str (Str.ofString "BASE") 668, val := Value.int 1 667 }, { hash := PyData.keyHash P (Str.ofString "COMPONENT"), key := Value.str (Str.ofString "COMPONENT") 670, val := Value.int 4 669 }, { hash := PyData.keyHash P (Str.ofString "Gdef"), key := Value.str (Str.ofString "Gdef") 739, val := Value.ref 383 }, { hash := PyData.keyHash P (Str.ofString "_law_draw"), key := Value.str (Str.ofString "_law_draw") 751, val := Value.ref 394 }, { hash := PyData.keyHash P (Str.ofString "_law_is_ignored"), key := Value.str (Str.ofString "_law_is_ignored") 761, val := Value.ref 401 }, { hash := PyData.keyHash P (Str.ofString "_law_test"), key := Value.str (Str.ofString "_law_test") 767, val := Value.ref 406 }, { hash := PyData.keyHash P (Str.ofString "_law_moved"), key := Value.str (Str.ofString "_law_moved") 773, val := Value.ref 411 }, { hash := PyData.keyHash P (Str.ofString "_law_answers"), key := Value.str (Str.ofString "_law_answers") 783, val := Value.ref 418 }, { hash := PyData.keyHash P (Str.ofString "law"), key := Value.str (Str.ofString "law") 789, val := Value.ref 423 }] 46 }) ::
  (nat_lit 15, { cls := Value.type "tuple", data := Data.seq #[] }) ::
  (nat_lit 17, { cls := Value.type "tuple", data := Data.seq #[Value.str (Str.ofString "k") 190] }) ::
  (nat_lit 18, { cls := Value.type "tuple", data := Data.seq #[] }) ::
  (nat_lit 20, { cls := Value.type "code", data := Data.fields #[Value.str (Str.ofString "_wall") 187, Value.str (Str.ofString "_wall") 188, Value.str (Str.ofString "/claim/cut.py") 189, Value.int 1 0, Value.int 1 0, Value.int 0 0, Value.int 0 0, Value.int 3 0, Value.ref 15, Value.bool true, Value.int 181 0, Value.ref 16, Value.none, Value.ref 17, Value.ref 18, Value.ref 19, Value.int 191 0, Value.int 1 0, Value.str (Str.ofString "/claim/cut.py") 192] }) ::
  (nat_lit 21, fO (fd 0) (Str.ofString "_wall") (Str.ofString "__main__") 164 20 Value.none) ::
  (nat_lit 29, { cls := Value.type "tuple", data := Data.seq #[] }) ::
  (nat_lit 31, { cls := Value.type "tuple", data := Data.seq #[Value.str (Str.ofString "self") 219, Value.str (Str.ofString "kind") 220, Value.str (Str.ofString "flag") 221, Value.str (Str.ofString "mark_set") 222, Value.str (Str.ofString "tables") 223] }) ::
  (nat_lit 32, { cls := Value.type "tuple", data := Data.seq #[] }) ::
  (nat_lit 34, { cls := Value.type "code", data := Data.fields #[Value.str (Str.ofString "__init__") 216, Value.str (Str.ofString "Lookup.__init__") 217, Value.str (Str.ofString "/claim/cut.py") 218, Value.int 11 0, Value.int 5 0, Value.int 0 0, Value.int 0 0, Value.int 3 0, Value.ref 29, Value.bool true, Value.int 181 0, Value.ref 30, Value.none, Value.ref 31, Value.ref 32, Value.ref 33, Value.int 224 0, Value.int 11 0, Value.str (Str.ofString "/claim/cut.py") 225] }) ::
  (nat_lit 35, fO (fm 6 0) (Str.ofString "Lookup.__init__") (Str.ofString "joinedhand.flags") 194 34 Value.none) ::
  (nat_lit 36, { cls := Value.type "tuple", data := Data.seq #[] }) ::
  (nat_lit 39, { cls := Value.type "code", data := Data.fields #[Value.str (Str.ofString "told") 227, Value.str (Str.ofString "Lookup.told") 228, Value.str (Str.ofString "/claim/cut.py") 229, Value.int 17 0, Value.int 1 0, Value.int 0 0, Value.int 0 0, Value.int 3 0, Value.ref 36, Value.bool true, Value.int 181 0, Value.ref 37, Value.none, Value.none, Value.none, Value.ref 38, Value.int 230 0, Value.int 17 0, Value.str (Str.ofString "/claim/cut.py") 231] }) ::
  (nat_lit 40, fO (fm 6 1) (Str.ofString "Lookup.told") (Str.ofString "joinedhand.flags") 194 39 Value.none) ::
  (nat_lit 41, { cls := Value.type "tuple", data := Data.seq #[Value.str (Str.ofString "flag") 233, Value.str (Str.ofString "kind") 234, Value.str (Str.ofString "mark_set") 235, Value.str (Str.ofString "tables") 236] }) ::
  (nat_lit 42, { cls := Value.type "dict", data := Data.dict #[{ hash := PyData.keyHash P (Str.ofString "__module__"), key := Value.str (Str.ofString "__module__") 211, val := Value.str (Str.ofString "joinedhand.flags") 194 }, { hash := PyData.keyHash P (Str.ofString "__firstlineno__"), key := Value.str (Str.ofString "__firstlineno__") 215, val := Value.int 9 214 }, { hash := PyData.keyHash P (Str.ofString "__init__"), key := Value.str (Str.ofString "__init__") 226, val := Value.ref 35 }, { hash := PyData.keyHash P (Str.ofString "told"), key := Value.str (Str.ofString "told") 232, val := Value.ref 40 }, { hash := PyData.keyHash P (Str.ofString "__static_attributes__"), key := Value.str (Str.ofString "__static_attributes__") 237, val := Value.ref 41 }, { hash := PyData.keyHash P (Str.ofString "__dict__"), key := Value.str (Str.ofString "__dict__") 239, val := Value.ref 44 }, { hash := PyData.keyHash P (Str.ofString "__weakref__"), key := Value.str (Str.ofString "__weakref__") 241, val := Value.ref 45 }, { hash := PyData.keyHash P (Str.ofString "__doc__"), key := Value.str (Str.ofString "__doc__") 242, val := Value.none }] 4 }) ::
  (nat_lit 43, { cls := Value.type "type", data := Data.cls { name := Str.ofString "Lookup", bases := [Value.type "object"], mro := [Value.ref 43, Value.type "object"], ns := 42, qualname := Str.ofString "Lookup" }, slots := #[none, none, some (Value.str (Str.ofString "Lookup") 204), some (Value.str (Str.ofString "Lookup") 212), some (Value.builtin "object.__new__"), some (Value.bool true)] }) ::
  (nat_lit 44, { cls := Value.type "getset_descriptor", data := Data.fields #[Value.str (Str.ofString "__dict__") 238, Value.ref 43, Value.builtin "function.__dict__", Value.builtin "function.__dict__#set"] }) ::
  (nat_lit 45, { cls := Value.type "getset_descriptor", data := Data.fields #[Value.str (Str.ofString "__weakref__") 240, Value.ref 43, Value.builtin "ExceptionGroup.__weakref__", Value.none] }) ::
  (nat_lit 55, { cls := Value.type "tuple", data := Data.seq #[Value.int 0 257] }) ::
  (nat_lit 56, { cls := Value.type "tuple", data := Data.seq #[] }) ::
  (nat_lit 58, { cls := Value.type "tuple", data := Data.seq #[Value.str (Str.ofString "self") 261, Value.str (Str.ofString "buffer") 262, Value.str (Str.ofString "gdef") 263, Value.str (Str.ofString "lookups") 264, Value.str (Str.ofString "lookup") 265, Value.str (Str.ofString "mask") 266, Value.str (Str.ofString "depth") 267] }) ::
  (nat_lit 59, { cls := Value.type "tuple", data := Data.seq #[] }) ::
  (nat_lit 61, { cls := Value.type "code", data := Data.fields #[Value.str (Str.ofString "__init__") 258, Value.str (Str.ofString "Scene.__init__") 259, Value.str (Str.ofString "/claim/cut.py") 260, Value.int 22 0, Value.int 7 0, Value.int 0 0, Value.int 0 0, Value.int 3 0, Value.ref 56, Value.bool true, Value.int 181 0, Value.ref 57, Value.none, Value.ref 58, Value.ref 59, Value.ref 60, Value.int 268 0, Value.int 22 0, Value.str (Str.ofString "/claim/cut.py") 269] }) ::
  (nat_lit 62, fO (fm 7 0) (Str.ofString "Scene.__init__") (Str.ofString "joinedhand.flags") 194 61 (Value.ref 55)) ::
  (nat_lit 63, { cls := Value.type "tuple", data := Data.seq #[Value.str (Str.ofString "buffer") 271, Value.str (Str.ofString "depth") 272, Value.str (Str.ofString "gdef") 273, Value.str (Str.ofString "lookup") 274, Value.str (Str.ofString "lookups") 275, Value.str (Str.ofString "mask") 276] }) ::
  (nat_lit 64, { cls := Value.type "dict", data := Data.dict #[{ hash := PyData.keyHash P (Str.ofString "__module__"), key := Value.str (Str.ofString "__module__") 252, val := Value.str (Str.ofString "joinedhand.flags") 194 }, { hash := PyData.keyHash P (Str.ofString "__firstlineno__"), key := Value.str (Str.ofString "__firstlineno__") 256, val := Value.int 20 255 }, { hash := PyData.keyHash P (Str.ofString "__init__"), key := Value.str (Str.ofString "__init__") 270, val := Value.ref 62 }, { hash := PyData.keyHash P (Str.ofString "__static_attributes__"), key := Value.str (Str.ofString "__static_attributes__") 277, val := Value.ref 63 }, { hash := PyData.keyHash P (Str.ofString "__dict__"), key := Value.str (Str.ofString "__dict__") 279, val := Value.ref 66 }, { hash := PyData.keyHash P (Str.ofString "__weakref__"), key := Value.str (Str.ofString "__weakref__") 281, val := Value.ref 67 }, { hash := PyData.keyHash P (Str.ofString "__doc__"), key := Value.str (Str.ofString "__doc__") 282, val := Value.none }] 4 }) ::
  (nat_lit 65, { cls := Value.type "type", data := Data.cls { name := Str.ofString "Scene", bases := [Value.type "object"], mro := [Value.ref 65, Value.type "object"], ns := 64, qualname := Str.ofString "Scene" }, slots := #[none, none, some (Value.str (Str.ofString "Scene") 245), some (Value.str (Str.ofString "Scene") 253), some (Value.builtin "object.__new__"), some (Value.bool true)] }) ::
  (nat_lit 66, { cls := Value.type "getset_descriptor", data := Data.fields #[Value.str (Str.ofString "__dict__") 278, Value.ref 65, Value.builtin "function.__dict__", Value.builtin "function.__dict__#set"] }) ::
  (nat_lit 67, { cls := Value.type "getset_descriptor", data := Data.fields #[Value.str (Str.ofString "__weakref__") 280, Value.ref 65, Value.builtin "ExceptionGroup.__weakref__", Value.none] }) ::
  (nat_lit 70, { cls := Value.type "tuple", data := Data.seq #[] }) ::
  (nat_lit 72, { cls := Value.type "tuple", data := Data.seq #[Value.str (Str.ofString "flag") 288] }) ::
  (nat_lit 73, { cls := Value.type "tuple", data := Data.seq #[] }) ::
  (nat_lit 75, { cls := Value.type "code", data := Data.fields #[Value.str (Str.ofString "attach_wanted") 285, Value.str (Str.ofString "attach_wanted") 286, Value.str (Str.ofString "/claim/cut.py") 287, Value.int 29 0, Value.int 1 0, Value.int 0 0, Value.int 0 0, Value.int 3 0, Value.ref 70, Value.bool true, Value.int 181 0, Value.ref 71, Value.none, Value.ref 72, Value.ref 73, Value.ref 74, Value.int 289 0, Value.int 29 0, Value.str (Str.ofString "/claim/cut.py") 290] }) ::
  (nat_lit 76, fO (fd 8) (Str.ofString "attach_wanted") (Str.ofString "joinedhand.flags") 194 75 Value.none) ::
  (nat_lit 77, { cls := Value.type "tuple", data := Data.seq #[] }) ::
  (nat_lit 79, { cls := Value.type "tuple", data := Data.seq #[Value.str (Str.ofString "number") 295] }) ::
  (nat_lit 80, { cls := Value.type "tuple", data := Data.seq #[] }) ::
  (nat_lit 82, { cls := Value.type "code", data := Data.fields #[Value.str (Str.ofString "class_bit") 292, Value.str (Str.ofString "class_bit") 293, Value.str (Str.ofString "/claim/cut.py") 294, Value.int 31 0, Value.int 1 0, Value.int 0 0, Value.int 0 0, Value.int 3 0, Value.ref 77, Value.bool true, Value.int 181 0, Value.ref 78, Value.none, Value.ref 79, Value.ref 80, Value.ref 81, Value.int 296 0, Value.int 31 0, Value.str (Str.ofString "/claim/cut.py") 297] }) ::
  (nat_lit 83, fO (fd 9) (Str.ofString "class_bit") (Str.ofString "joinedhand.flags") 194 82 Value.none) ::
  (nat_lit 84, { cls := Value.type "tuple", data := Data.seq #[] }) ::
  (nat_lit 86, { cls := Value.type "tuple", data := Data.seq #[Value.str (Str.ofString "gdef") 302, Value.str (Str.ofString "lookup") 303, Value.str (Str.ofString "glyph") 304, Value.str (Str.ofString "number") 305, Value.str (Str.ofString "wanted") 306] }) ::
  (nat_lit 87, { cls := Value.type "tuple", data := Data.seq #[] }) ::
  (nat_lit 89, { cls := Value.type "code", data := Data.fields #[Value.str (Str.ofString "is_ignored") 299, Value.str (Str.ofString "is_ignored") 300, Value.str (Str.ofString "/claim/cut.py") 301, Value.int 33 0, Value.int 3 0, Value.int 0 0, Value.int 0 0, Value.int 3 0, Value.ref 84, Value.bool true, Value.int 181 0, Value.ref 85, Value.none, Value.ref 86, Value.ref 87, Value.ref 88, Value.int 307 0, Value.int 33 0, Value.str (Str.ofString "/claim/cut.py") 308] }) ::
  (nat_lit 90, fO (fd 10) (Str.ofString "is_ignored") (Str.ofString "joinedhand.flags") 194 89 Value.none) ::
  (nat_lit 91, { cls := Value.type "tuple", data := Data.seq #[] }) ::
  (nat_lit 93, { cls := Value.type "tuple", data := Data.seq #[Value.str (Str.ofString "scene") 313, Value.str (Str.ofString "at") 314] }) ::
  (nat_lit 94, { cls := Value.type "tuple", data := Data.seq #[] }) ::
  (nat_lit 96, { cls := Value.type "code", data := Data.fields #[Value.str (Str.ofString "passes") 310, Value.str (Str.ofString "passes") 311, Value.str (Str.ofString "/claim/cut.py") 312, Value.int 43 0, Value.int 2 0, Value.int 0 0, Value.int 0 0, Value.int 3 0, Value.ref 91, Value.bool true, Value.int 181 0, Value.ref 92, Value.none, Value.ref 93, Value.ref 94, Value.ref 95, Value.int 315 0, Value.int 43 0, Value.str (Str.ofString "/claim/cut.py") 316] }) ::
  (nat_lit 97, fO (fd 11) (Str.ofString "passes") (Str.ofString "joinedhand.flags") 194 96 Value.none) ::
  (nat_lit 98, { cls := Value.type "tuple", data := Data.seq #[Value.str (Str.ofString "zwj") 320, Value.str (Str.ofString "hidden") 321] }) ::
  (nat_lit 99, { cls := Value.type "tuple", data := Data.seq #[Value.str (Str.ofString "zwj") 323, Value.str (Str.ofString "zwnj") 324, Value.str (Str.ofString "hidden") 325] }) ::
  (nat_lit 100, { cls := Value.type "tuple", data := Data.seq #[] }) ::
  (nat_lit 102, { cls := Value.type "tuple", data := Data.seq #[Value.str (Str.ofString "test") 330, Value.str (Str.ofString "glyph") 331] }) ::
  (nat_lit 103, { cls := Value.type "tuple", data := Data.seq #[] }) ::
  (nat_lit 105, { cls := Value.type "code", data := Data.fields #[Value.str (Str.ofString "fits") 327, Value.str (Str.ofString "fits") 328, Value.str (Str.ofString "/claim/cut.py") 329, Value.int 48 0, Value.int 2 0, Value.int 0 0, Value.int 0 0, Value.int 3 0, Value.ref 100, Value.bool true, Value.int 181 0, Value.ref 101, Value.none, Value.ref 102, Value.ref 103, Value.ref 104, Value.int 332 0, Value.int 48 0, Value.str (Str.ofString "/claim/cut.py") 333] }) ::
  (nat_lit 106, fO (fd 15) (Str.ofString "fits") (Str.ofString "joinedhand.matching") 318 105 Value.none) ::
  (nat_lit 107, { cls := Value.type "tuple", data := Data.seq #[] }) ::
  (nat_lit 109, { cls := Value.type "tuple", data := Data.seq #[Value.str (Str.ofString "scene") 338, Value.str (Str.ofString "at") 339, Value.str (Str.ofString "step") 340, Value.str (Str.ofString "here") 341] }) ::
  (nat_lit 110, { cls := Value.type "tuple", data := Data.seq #[] }) ::
  (nat_lit 112, { cls := Value.type "code", data := Data.fields #[Value.str (Str.ofString "neighbour") 335, Value.str (Str.ofString "neighbour") 336, Value.str (Str.ofString "/claim/cut.py") 337, Value.int 54 0, Value.int 3 0, Value.int 0 0, Value.int 0 0, Value.int 3 0, Value.ref 107, Value.bool true, Value.int 181 0, Value.ref 108, Value.none, Value.ref 109, Value.ref 110, Value.ref 111, Value.int 342 0, Value.int 54 0, Value.str (Str.ofString "/claim/cut.py") 343] }) ::
  (nat_lit 113, fO (fd 16) (Str.ofString "neighbour") (Str.ofString "joinedhand.matching") 318 112 Value.none) ::
  (nat_lit 114, { cls := Value.type "tuple", data := Data.seq #[] }) ::
  (nat_lit 116, { cls := Value.type "tuple", data := Data.seq #[Value.str (Str.ofString "scene") 348, Value.str (Str.ofString "at") 349] }) ::
  (nat_lit 117, { cls := Value.type "tuple", data := Data.seq #[] }) ::
  (nat_lit 119, { cls := Value.type "code", data := Data.fields #[Value.str (Str.ofString "next_at") 345, Value.str (Str.ofString "next_at") 346, Value.str (Str.ofString "/claim/cut.py") 347, Value.int 61 0, Value.int 2 0, Value.int 0 0, Value.int 0 0, Value.int 3 0, Value.ref 114, Value.bool true, Value.int 181 0, Value.ref 115, Value.none, Value.ref 116, Value.ref 117, Value.ref 118, Value.int 350 0, Value.int 61 0, Value.str (Str.ofString "/claim/cut.py") 351] }) ::
  (nat_lit 120, fO (fd 17) (Str.ofString "next_at") (Str.ofString "joinedhand.matching") 318 119 Value.none) ::
  (nat_lit 121, { cls := Value.type "tuple", data := Data.seq #[] }) ::
  (nat_lit 123, { cls := Value.type "tuple", data := Data.seq #[Value.str (Str.ofString "scene") 356, Value.str (Str.ofString "at") 357] }) ::
  (nat_lit 124, { cls := Value.type "tuple", data := Data.seq #[] }) ::
  (nat_lit 126, { cls := Value.type "code", data := Data.fields #[Value.str (Str.ofString "before_at") 353, Value.str (Str.ofString "before_at") 354, Value.str (Str.ofString "/claim/cut.py") 355, Value.int 63 0, Value.int 2 0, Value.int 0 0, Value.int 0 0, Value.int 3 0, Value.ref 121, Value.bool true, Value.int 181 0, Value.ref 122, Value.none, Value.ref 123, Value.ref 124, Value.ref 125, Value.int 358 0, Value.int 63 0, Value.str (Str.ofString "/claim/cut.py") 359] }) ::
  (nat_lit 127, fO (fd 18) (Str.ofString "before_at") (Str.ofString "joinedhand.matching") 318 126 Value.none) ::
  (nat_lit 128, { cls := Value.type "tuple", data := Data.seq #[] }) ::
  (nat_lit 130, { cls := Value.type "tuple", data := Data.seq #[Value.str (Str.ofString "scene") 364, Value.str (Str.ofString "info") 365] }) ::
  (nat_lit 131, { cls := Value.type "tuple", data := Data.seq #[] }) ::
  (nat_lit 133, { cls := Value.type "code", data := Data.fields #[Value.str (Str.ofString "is_borne") 361, Value.str (Str.ofString "is_borne") 362, Value.str (Str.ofString "/claim/cut.py") 363, Value.int 65 0, Value.int 2 0, Value.int 0 0, Value.int 0 0, Value.int 3 0, Value.ref 128, Value.bool true, Value.int 181 0, Value.ref 129, Value.none, Value.ref 130, Value.ref 131, Value.ref 132, Value.int 366 0, Value.int 65 0, Value.str (Str.ofString "/claim/cut.py") 367] }) ::
  (nat_lit 134, fO (fd 19) (Str.ofString "is_borne") (Str.ofString "joinedhand.matching") 318 133 Value.none) ::
  (nat_lit 135, { cls := Value.type "tuple", data := Data.seq #[] }) ::
  (nat_lit 137, { cls := Value.type "tuple", data := Data.seq #[Value.str (Str.ofString "scene") 372, Value.str (Str.ofString "at") 373, Value.str (Str.ofString "step") 374, Value.str (Str.ofString "test") 375, Value.str (Str.ofString "kinds") 376, Value.str (Str.ofString "is_input") 377, Value.str (Str.ofString "here") 378, Value.str (Str.ofString "info") 379] }) ::
  (nat_lit 138, { cls := Value.type "tuple", data := Data.seq #[] }) ::
  (nat_lit 140, { cls := Value.type "code", data := Data.fields #[Value.str (Str.ofString "found_at") 369, Value.str (Str.ofString "found_at") 370, Value.str (Str.ofString "/claim/cut.py") 371, Value.int 67 0, Value.int 6 0, Value.int 0 0, Value.int 0 0, Value.int 3 0, Value.ref 135, Value.bool true, Value.int 181 0, Value.ref 136, Value.none, Value.ref 137, Value.ref 138, Value.ref 139, Value.int 380 0, Value.int 67 0, Value.str (Str.ofString "/claim/cut.py") 381] }) ::
  (nat_lit 141, fO (fd 20) (Str.ofString "found_at") (Str.ofString "joinedhand.matching") 318 140 Value.none) ::
  (nat_lit 142, { cls := Value.type "tuple", data := Data.seq #[] }) ::
  (nat_lit 144, { cls := Value.type "tuple", data := Data.seq #[Value.str (Str.ofString "scene") 386, Value.str (Str.ofString "at") 387, Value.str (Str.ofString "tests") 388, Value.str (Str.ofString "found") 389, Value.str (Str.ofString "test") 390, Value.str (Str.ofString "here") 391] }) ::
  (nat_lit 145, { cls := Value.type "tuple", data := Data.seq #[] }) ::
  (nat_lit 147, { cls := Value.type "code", data := Data.fields #[Value.str (Str.ofString "input_at") 383, Value.str (Str.ofString "input_at") 384, Value.str (Str.ofString "/claim/cut.py") 385, Value.int 78 0, Value.int 3 0, Value.int 0 0, Value.int 0 0, Value.int 3 0, Value.ref 142, Value.bool true, Value.int 181 0, Value.ref 143, Value.none, Value.ref 144, Value.ref 145, Value.ref 146, Value.int 392 0, Value.int 78 0, Value.str (Str.ofString "/claim/cut.py") 393] }) ::
  (nat_lit 148, fO (fd 21) (Str.ofString "input_at") (Str.ofString "joinedhand.matching") 318 147 Value.none) ::
  (nat_lit 149, { cls := Value.type "tuple", data := Data.seq #[] }) ::
  (nat_lit 151, { cls := Value.type "tuple", data := Data.seq #[Value.str (Str.ofString "scene") 398, Value.str (Str.ofString "at") 399, Value.str (Str.ofString "step") 400, Value.str (Str.ofString "tests") 401, Value.str (Str.ofString "here") 402, Value.str (Str.ofString "test") 403] }) ::
  (nat_lit 152, { cls := Value.type "tuple", data := Data.seq #[] }) ::
  (nat_lit 154, { cls := Value.type "code", data := Data.fields #[Value.str (Str.ofString "last_at") 395, Value.str (Str.ofString "last_at") 396, Value.str (Str.ofString "/claim/cut.py") 397, Value.int 88 0, Value.int 4 0, Value.int 0 0, Value.int 0 0, Value.int 3 0, Value.ref 149, Value.bool true, Value.int 181 0, Value.ref 150, Value.none, Value.ref 151, Value.ref 152, Value.ref 153, Value.int 404 0, Value.int 88 0, Value.str (Str.ofString "/claim/cut.py") 405] }) ::
  (nat_lit 155, fO (fd 22) (Str.ofString "last_at") (Str.ofString "joinedhand.matching") 318 154 Value.none) ::
  (nat_lit 156, { cls := Value.type "tuple", data := Data.seq #[] }) ::
  (nat_lit 158, { cls := Value.type "tuple", data := Data.seq #[Value.str (Str.ofString "scene") 410, Value.str (Str.ofString "at") 411, Value.str (Str.ofString "tests") 412] }) ::
  (nat_lit 159, { cls := Value.type "tuple", data := Data.seq #[] }) ::
  (nat_lit 161, { cls := Value.type "code", data := Data.fields #[Value.str (Str.ofString "ahead_at") 407, Value.str (Str.ofString "ahead_at") 408, Value.str (Str.ofString "/claim/cut.py") 409, Value.int 95 0, Value.int 3 0, Value.int 0 0, Value.int 0 0, Value.int 3 0, Value.ref 156, Value.bool true, Value.int 181 0, Value.ref 157, Value.none, Value.ref 158, Value.ref 159, Value.ref 160, Value.int 413 0, Value.int 95 0, Value.str (Str.ofString "/claim/cut.py") 414] }) ::
  (nat_lit 162, fO (fd 23) (Str.ofString "ahead_at") (Str.ofString "joinedhand.matching") 318 161 Value.none) ::
  (nat_lit 163, { cls := Value.type "tuple", data := Data.seq #[] }) ::
  (nat_lit 165, { cls := Value.type "tuple", data := Data.seq #[Value.str (Str.ofString "scene") 419, Value.str (Str.ofString "at") 420, Value.str (Str.ofString "tests") 421] }) ::
  (nat_lit 166, { cls := Value.type "tuple", data := Data.seq #[] }) ::
  (nat_lit 168, { cls := Value.type "code", data := Data.fields #[Value.str (Str.ofString "back_at") 416, Value.str (Str.ofString "back_at") 417, Value.str (Str.ofString "/claim/cut.py") 418, Value.int 97 0, Value.int 3 0, Value.int 0 0, Value.int 0 0, Value.int 3 0, Value.ref 163, Value.bool true, Value.int 181 0, Value.ref 164, Value.none, Value.ref 165, Value.ref 166, Value.ref 167, Value.int 422 0, Value.int 97 0, Value.str (Str.ofString "/claim/cut.py") 423] }) ::
  (nat_lit 169, fO (fd 24) (Str.ofString "back_at") (Str.ofString "joinedhand.matching") 318 168 Value.none) ::
  (nat_lit 177, { cls := Value.type "tuple", data := Data.seq #[] }) ::
  (nat_lit 179, { cls := Value.type "tuple", data := Data.seq #[Value.str (Str.ofString "self") 442, Value.str (Str.ofString "code") 443, Value.str (Str.ofString "glyph") 444, Value.str (Str.ofString "cluster") 445] }) ::
  (nat_lit 180, { cls := Value.type "tuple", data := Data.seq #[] }) ::
  (nat_lit 182, { cls := Value.type "code", data := Data.fields #[Value.str (Str.ofString "__init__") 439, Value.str (Str.ofString "Info.__init__") 440, Value.str (Str.ofString "/claim/cut.py") 441, Value.int 102 0, Value.int 4 0, Value.int 0 0, Value.int 0 0, Value.int 3 0, Value.ref 177, Value.bool true, Value.int 181 0, Value.ref 178, Value.none, Value.ref 179, Value.ref 180, Value.ref 181, Value.int 446 0, Value.int 102 0, Value.str (Str.ofString "/claim/cut.py") 447] }) ::
  (nat_lit 183, fO (fm 26 0) (Str.ofString "Info.__init__") (Str.ofString "joinedhand.buffer") 425 182 Value.none) ::
  (nat_lit 184, { cls := Value.type "tuple", data := Data.seq #[] }) ::
  (nat_lit 186, { cls := Value.type "tuple", data := Data.seq #[Value.str (Str.ofString "self") 452] }) ::
  (nat_lit 187, { cls := Value.type "tuple", data := Data.seq #[] }) ::
  (nat_lit 189, { cls := Value.type "code", data := Data.fields #[Value.str (Str.ofString "copied") 449, Value.str (Str.ofString "Info.copied") 450, Value.str (Str.ofString "/claim/cut.py") 451, Value.int 119 0, Value.int 1 0, Value.int 0 0, Value.int 0 0, Value.int 3 0, Value.ref 184, Value.bool true, Value.int 181 0, Value.ref 185, Value.none, Value.ref 186, Value.ref 187, Value.ref 188, Value.int 453 0, Value.int 119 0, Value.str (Str.ofString "/claim/cut.py") 454] }) ::
  (nat_lit 190, fO (fm 26 1) (Str.ofString "Info.copied") (Str.ofString "joinedhand.buffer") 425 189 Value.none) ::
  (nat_lit 191, { cls := Value.type "tuple", data := Data.seq #[] }) ::
  (nat_lit 193, { cls := Value.type "tuple", data := Data.seq #[Value.str (Str.ofString "self") 459] }) ::
  (nat_lit 194, { cls := Value.type "tuple", data := Data.seq #[] }) ::
  (nat_lit 196, { cls := Value.type "code", data := Data.fields #[Value.str (Str.ofString "told") 456, Value.str (Str.ofString "Info.told") 457, Value.str (Str.ofString "/claim/cut.py") 458, Value.int 122 0, Value.int 1 0, Value.int 0 0, Value.int 0 0, Value.int 3 0, Value.ref 191, Value.bool true, Value.int 181 0, Value.ref 192, Value.none, Value.ref 193, Value.ref 194, Value.ref 195, Value.int 460 0, Value.int 122 0, Value.str (Str.ofString "/claim/cut.py") 461] }) ::
  (nat_lit 197, fO (fm 26 2) (Str.ofString "Info.told") (Str.ofString "joinedhand.buffer") 425 196 Value.none) ::
  (nat_lit 198, { cls := Value.type "tuple", data := Data.seq #[Value.str (Str.ofString "bond") 463, Value.str (Str.ofString "cluster") 464, Value.str (Str.ofString "code") 465, Value.str (Str.ofString "glyph") 466, Value.str (Str.ofString "is_unsafe") 467, Value.str (Str.ofString "kind") 468, Value.str (Str.ofString "lig_count") 469, Value.str (Str.ofString "lig_id") 470, Value.str (Str.ofString "lig_part") 471, Value.str (Str.ofString "mask") 472, Value.str (Str.ofString "parent") 473, Value.str (Str.ofString "x_advance") 474, Value.str (Str.ofString "x_offset") 475, Value.str (Str.ofString "y_advance") 476, Value.str (Str.ofString "y_offset") 477] }) ::
  (nat_lit 199, { cls := Value.type "dict", data := Data.dict #[{ hash := PyData.keyHash P (Str.ofString "__module__"), key := Value.str (Str.ofString "__module__") 434, val := Value.str (Str.ofString "joinedhand.buffer") 425 }, { hash := PyData.keyHash P (Str.ofString "__firstlineno__"), key := Value.str (Str.ofString "__firstlineno__") 438, val := Value.int 100 437 }, { hash := PyData.keyHash P (Str.ofString "__init__"), key := Value.str (Str.ofString "__init__") 448, val := Value.ref 183 }, { hash := PyData.keyHash P (Str.ofString "copied"), key := Value.str (Str.ofString "copied") 455, val := Value.ref 190 }, { hash := PyData.keyHash P (Str.ofString "told"), key := Value.str (Str.ofString "told") 462, val := Value.ref 197 }, { hash := PyData.keyHash P (Str.ofString "__static_attributes__"), key := Value.str (Str.ofString "__static_attributes__") 478, val := Value.ref 198 }, { hash := PyData.keyHash P (Str.ofString "__dict__"), key := Value.str (Str.ofString "__dict__") 480, val := Value.ref 201 }, { hash := PyData.keyHash P (Str.ofString "__weakref__"), key := Value.str (Str.ofString "__weakref__") 482, val := Value.ref 202 }, { hash := PyData.keyHash P (Str.ofString "__doc__"), key := Value.str (Str.ofString "__doc__") 483, val := Value.none }] 4 }) ::
  (nat_lit 200, { cls := Value.type "type", data := Data.cls { name := Str.ofString "Info", bases := [Value.type "object"], mro := [Value.ref 200, Value.type "object"], ns := 199, qualname := Str.ofString "Info" }, slots := #[none, none, some (Value.str (Str.ofString "Info") 427), some (Value.str (Str.ofString "Info") 435), some (Value.builtin "object.__new__"), some (Value.bool true)] }) ::
  (nat_lit 201, { cls := Value.type "getset_descriptor", data := Data.fields #[Value.str (Str.ofString "__dict__") 479, Value.ref 200, Value.builtin "function.__dict__", Value.builtin "function.__dict__#set"] }) ::
  (nat_lit 202, { cls := Value.type "getset_descriptor", data := Data.fields #[Value.str (Str.ofString "__weakref__") 481, Value.ref 200, Value.builtin "ExceptionGroup.__weakref__", Value.none] }) ::
  (nat_lit 212, { cls := Value.type "tuple", data := Data.seq #[Value.bool false] }) ::
  (nat_lit 213, { cls := Value.type "tuple", data := Data.seq #[] }) ::
  (nat_lit 215, { cls := Value.type "tuple", data := Data.seq #[Value.str (Str.ofString "self") 501, Value.str (Str.ofString "infos") 502, Value.str (Str.ofString "is_backward") 503] }) ::
  (nat_lit 216, { cls := Value.type "tuple", data := Data.seq #[] }) ::
  (nat_lit 218, { cls := Value.type "code", data := Data.fields #[Value.str (Str.ofString "__init__") 498, Value.str (Str.ofString "Buffer.__init__") 499, Value.str (Str.ofString "/claim/cut.py") 500, Value.int 126 0, Value.int 3 0, Value.int 0 0, Value.int 0 0, Value.int 3 0, Value.ref 213, Value.bool true, Value.int 181 0, Value.ref 214, Value.none, Value.ref 215, Value.ref 216, Value.ref 217, Value.int 504 0, Value.int 126 0, Value.str (Str.ofString "/claim/cut.py") 505] }) ::
  (nat_lit 219, fO (fm 27 0) (Str.ofString "Buffer.__init__") (Str.ofString "joinedhand.buffer") 425 218 (Value.ref 212)) ::
  (nat_lit 220, { cls := Value.type "tuple", data := Data.seq #[] }) ::
  (nat_lit 223, { cls := Value.type "code", data := Data.fields #[Value.str (Str.ofString "glyphs") 507, Value.str (Str.ofString "Buffer.glyphs") 508, Value.str (Str.ofString "/claim/cut.py") 509, Value.int 131 0, Value.int 1 0, Value.int 0 0, Value.int 0 0, Value.int 3 0, Value.ref 220, Value.bool true, Value.int 181 0, Value.ref 221, Value.none, Value.none, Value.none, Value.ref 222, Value.int 510 0, Value.int 131 0, Value.str (Str.ofString "/claim/cut.py") 511] }) ::
  (nat_lit 224, fO (fm 27 1) (Str.ofString "Buffer.glyphs") (Str.ofString "joinedhand.buffer") 425 223 Value.none) ::
  (nat_lit 225, { cls := Value.type "tuple", data := Data.seq #[] }) ::
  (nat_lit 227, { cls := Value.type "tuple", data := Data.seq #[Value.str (Str.ofString "self") 516] }) ::
  (nat_lit 228, { cls := Value.type "tuple", data := Data.seq #[] }) ::
  (nat_lit 230, { cls := Value.type "code", data := Data.fields #[Value.str (Str.ofString "clusters") 513, Value.str (Str.ofString "Buffer.clusters") 514, Value.str (Str.ofString "/claim/cut.py") 515, Value.int 134 0, Value.int 1 0, Value.int 0 0, Value.int 0 0, Value.int 3 0, Value.ref 225, Value.bool true, Value.int 181 0, Value.ref 226, Value.none, Value.ref 227, Value.ref 228, Value.ref 229, Value.int 517 0, Value.int 134 0, Value.str (Str.ofString "/claim/cut.py") 518] }) ::
  (nat_lit 231, fO (fm 27 2) (Str.ofString "Buffer.clusters") (Str.ofString "joinedhand.buffer") 425 230 Value.none) ::
  (nat_lit 232, { cls := Value.type "tuple", data := Data.seq #[] }) ::
  (nat_lit 235, { cls := Value.type "code", data := Data.fields #[Value.str (Str.ofString "told") 520, Value.str (Str.ofString "Buffer.told") 521, Value.str (Str.ofString "/claim/cut.py") 522, Value.int 137 0, Value.int 1 0, Value.int 0 0, Value.int 0 0, Value.int 3 0, Value.ref 232, Value.bool true, Value.int 181 0, Value.ref 233, Value.none, Value.none, Value.none, Value.ref 234, Value.int 523 0, Value.int 137 0, Value.str (Str.ofString "/claim/cut.py") 524] }) ::
  (nat_lit 236, fO (fm 27 3) (Str.ofString "Buffer.told") (Str.ofString "joinedhand.buffer") 425 235 Value.none) ::
  (nat_lit 237, { cls := Value.type "tuple", data := Data.seq #[] }) ::
  (nat_lit 239, { cls := Value.type "tuple", data := Data.seq #[Value.str (Str.ofString "self") 529] }) ::
  (nat_lit 240, { cls := Value.type "tuple", data := Data.seq #[] }) ::
  (nat_lit 242, { cls := Value.type "code", data := Data.fields #[Value.str (Str.ofString "next_lig") 526, Value.str (Str.ofString "Buffer.next_lig") 527, Value.str (Str.ofString "/claim/cut.py") 528, Value.int 140 0, Value.int 1 0, Value.int 0 0, Value.int 0 0, Value.int 3 0, Value.ref 237, Value.bool true, Value.int 181 0, Value.ref 238, Value.none, Value.ref 239, Value.ref 240, Value.ref 241, Value.int 530 0, Value.int 140 0, Value.str (Str.ofString "/claim/cut.py") 531] }) ::
  (nat_lit 243, fO (fm 27 4) (Str.ofString "Buffer.next_lig") (Str.ofString "joinedhand.buffer") 425 242 Value.none) ::
  (nat_lit 244, { cls := Value.type "tuple", data := Data.seq #[Value.str (Str.ofString "is_backward") 533, Value.str (Str.ofString "last_lig") 534, Value.str (Str.ofString "row") 535] }) ::
  (nat_lit 245, { cls := Value.type "dict", data := Data.dict #[{ hash := PyData.keyHash P (Str.ofString "__module__"), key := Value.str (Str.ofString "__module__") 493, val := Value.str (Str.ofString "joinedhand.buffer") 425 }, { hash := PyData.keyHash P (Str.ofString "__firstlineno__"), key := Value.str (Str.ofString "__firstlineno__") 497, val := Value.int 124 496 }, { hash := PyData.keyHash P (Str.ofString "__init__"), key := Value.str (Str.ofString "__init__") 506, val := Value.ref 219 }, { hash := PyData.keyHash P (Str.ofString "glyphs"), key := Value.str (Str.ofString "glyphs") 512, val := Value.ref 224 }, { hash := PyData.keyHash P (Str.ofString "clusters"), key := Value.str (Str.ofString "clusters") 519, val := Value.ref 231 }, { hash := PyData.keyHash P (Str.ofString "told"), key := Value.str (Str.ofString "told") 525, val := Value.ref 236 }, { hash := PyData.keyHash P (Str.ofString "next_lig"), key := Value.str (Str.ofString "next_lig") 532, val := Value.ref 243 }, { hash := PyData.keyHash P (Str.ofString "__static_attributes__"), key := Value.str (Str.ofString "__static_attributes__") 536, val := Value.ref 244 }, { hash := PyData.keyHash P (Str.ofString "__dict__"), key := Value.str (Str.ofString "__dict__") 538, val := Value.ref 247 }, { hash := PyData.keyHash P (Str.ofString "__weakref__"), key := Value.str (Str.ofString "__weakref__") 540, val := Value.ref 248 }, { hash := PyData.keyHash P (Str.ofString "__doc__"), key := Value.str (Str.ofString "__doc__") 541, val := Value.none }] 4 }) ::
  (nat_lit 246, { cls := Value.type "type", data := Data.cls { name := Str.ofString "Buffer", bases := [Value.type "object"], mro := [Value.ref 246, Value.type "object"], ns := 245, qualname := Str.ofString "Buffer" }, slots := #[none, none, some (Value.str (Str.ofString "Buffer") 486), some (Value.str (Str.ofString "Buffer") 494), some (Value.builtin "object.__new__"), some (Value.bool true)] }) ::
  (nat_lit 247, { cls := Value.type "getset_descriptor", data := Data.fields #[Value.str (Str.ofString "__dict__") 537, Value.ref 246, Value.builtin "function.__dict__", Value.builtin "function.__dict__#set"] }) ::
  (nat_lit 248, { cls := Value.type "getset_descriptor", data := Data.fields #[Value.str (Str.ofString "__weakref__") 539, Value.ref 246, Value.builtin "ExceptionGroup.__weakref__", Value.none] }) ::
  (nat_lit 258, { cls := Value.type "tuple", data := Data.seq #[] }) ::
  (nat_lit 260, { cls := Value.type "tuple", data := Data.seq #[Value.str (Str.ofString "self") 561, Value.str (Str.ofString "classes") 562] }) ::
  (nat_lit 261, { cls := Value.type "tuple", data := Data.seq #[] }) ::
  (nat_lit 263, { cls := Value.type "code", data := Data.fields #[Value.str (Str.ofString "__init__") 558, Value.str (Str.ofString "ClassDef.__init__") 559, Value.str (Str.ofString "/claim/cut.py") 560, Value.int 145 0, Value.int 2 0, Value.int 0 0, Value.int 0 0, Value.int 3 0, Value.ref 258, Value.bool true, Value.int 181 0, Value.ref 259, Value.none, Value.ref 260, Value.ref 261, Value.ref 262, Value.int 563 0, Value.int 145 0, Value.str (Str.ofString "/claim/cut.py") 564] }) ::
  (nat_lit 264, fO (fm 29 0) (Str.ofString "ClassDef.__init__") (Str.ofString "joinedhand.classdefs") 544 263 Value.none) ::
  (nat_lit 265, { cls := Value.type "tuple", data := Data.seq #[] }) ::
  (nat_lit 267, { cls := Value.type "tuple", data := Data.seq #[Value.str (Str.ofString "self") 569, Value.str (Str.ofString "glyph") 570] }) ::
  (nat_lit 268, { cls := Value.type "tuple", data := Data.seq #[] }) ::
  (nat_lit 270, { cls := Value.type "code", data := Data.fields #[Value.str (Str.ofString "class_of") 566, Value.str (Str.ofString "ClassDef.class_of") 567, Value.str (Str.ofString "/claim/cut.py") 568, Value.int 148 0, Value.int 2 0, Value.int 0 0, Value.int 0 0, Value.int 3 0, Value.ref 265, Value.bool true, Value.int 181 0, Value.ref 266, Value.none, Value.ref 267, Value.ref 268, Value.ref 269, Value.int 571 0, Value.int 148 0, Value.str (Str.ofString "/claim/cut.py") 572] }) ::
  (nat_lit 271, fO (fm 29 1) (Str.ofString "ClassDef.class_of") (Str.ofString "joinedhand.classdefs") 544 270 Value.none) ::
  (nat_lit 272, { cls := Value.type "tuple", data := Data.seq #[] }) ::
  (nat_lit 274, { cls := Value.type "tuple", data := Data.seq #[Value.str (Str.ofString "self") 577, Value.str (Str.ofString "number") 578] }) ::
  (nat_lit 275, { cls := Value.type "tuple", data := Data.seq #[] }) ::
  (nat_lit 277, { cls := Value.type "code", data := Data.fields #[Value.str (Str.ofString "glyphs_of") 574, Value.str (Str.ofString "ClassDef.glyphs_of") 575, Value.str (Str.ofString "/claim/cut.py") 576, Value.int 151 0, Value.int 2 0, Value.int 0 0, Value.int 0 0, Value.int 3 0, Value.ref 272, Value.bool true, Value.int 181 0, Value.ref 273, Value.none, Value.ref 274, Value.ref 275, Value.ref 276, Value.int 579 0, Value.int 151 0, Value.str (Str.ofString "/claim/cut.py") 580] }) ::
  (nat_lit 278, fO (fm 29 2) (Str.ofString "ClassDef.glyphs_of") (Str.ofString "joinedhand.classdefs") 544 277 Value.none) ::
  (nat_lit 279, { cls := Value.type "tuple", data := Data.seq #[] }) ::
  (nat_lit 281, { cls := Value.type "tuple", data := Data.seq #[Value.str (Str.ofString "self") 585, Value.str (Str.ofString "most") 586, Value.str (Str.ofString "glyph") 587] }) ::
  (nat_lit 282, { cls := Value.type "tuple", data := Data.seq #[] }) ::
  (nat_lit 284, { cls := Value.type "code", data := Data.fields #[Value.str (Str.ofString "count") 582, Value.str (Str.ofString "ClassDef.count") 583, Value.str (Str.ofString "/claim/cut.py") 584, Value.int 154 0, Value.int 1 0, Value.int 0 0, Value.int 0 0, Value.int 3 0, Value.ref 279, Value.bool true, Value.int 181 0, Value.ref 280, Value.none, Value.ref 281, Value.ref 282, Value.ref 283, Value.int 588 0, Value.int 154 0, Value.str (Str.ofString "/claim/cut.py") 589] }) ::
  (nat_lit 285, fO (fm 29 3) (Str.ofString "ClassDef.count") (Str.ofString "joinedhand.classdefs") 544 284 Value.none) ::
  (nat_lit 286, { cls := Value.type "tuple", data := Data.seq #[] }) ::
  (nat_lit 289, { cls := Value.type "code", data := Data.fields #[Value.str (Str.ofString "told") 591, Value.str (Str.ofString "ClassDef.told") 592, Value.str (Str.ofString "/claim/cut.py") 593, Value.int 160 0, Value.int 1 0, Value.int 0 0, Value.int 0 0, Value.int 3 0, Value.ref 286, Value.bool true, Value.int 181 0, Value.ref 287, Value.none, Value.none, Value.none, Value.ref 288, Value.int 594 0, Value.int 160 0, Value.str (Str.ofString "/claim/cut.py") 595] }) ::
  (nat_lit 290, fO (fm 29 4) (Str.ofString "ClassDef.told") (Str.ofString "joinedhand.classdefs") 544 289 Value.none) ::
  (nat_lit 291, { cls := Value.type "tuple", data := Data.seq #[Value.str (Str.ofString "classes") 597] }) ::
  (nat_lit 292, { cls := Value.type "dict", data := Data.dict #[{ hash := PyData.keyHash P (Str.ofString "__module__"), key := Value.str (Str.ofString "__module__") 553, val := Value.str (Str.ofString "joinedhand.classdefs") 544 }, { hash := PyData.keyHash P (Str.ofString "__firstlineno__"), key := Value.str (Str.ofString "__firstlineno__") 557, val := Value.int 143 556 }, { hash := PyData.keyHash P (Str.ofString "__init__"), key := Value.str (Str.ofString "__init__") 565, val := Value.ref 264 }, { hash := PyData.keyHash P (Str.ofString "class_of"), key := Value.str (Str.ofString "class_of") 573, val := Value.ref 271 }, { hash := PyData.keyHash P (Str.ofString "glyphs_of"), key := Value.str (Str.ofString "glyphs_of") 581, val := Value.ref 278 }, { hash := PyData.keyHash P (Str.ofString "count"), key := Value.str (Str.ofString "count") 590, val := Value.ref 285 }, { hash := PyData.keyHash P (Str.ofString "told"), key := Value.str (Str.ofString "told") 596, val := Value.ref 290 }, { hash := PyData.keyHash P (Str.ofString "__static_attributes__"), key := Value.str (Str.ofString "__static_attributes__") 598, val := Value.ref 291 }, { hash := PyData.keyHash P (Str.ofString "__dict__"), key := Value.str (Str.ofString "__dict__") 600, val := Value.ref 294 }, { hash := PyData.keyHash P (Str.ofString "__weakref__"), key := Value.str (Str.ofString "__weakref__") 602, val := Value.ref 295 }, { hash := PyData.keyHash P (Str.ofString "__doc__"), key := Value.str (Str.ofString "__doc__") 603, val := Value.none }] 4 }) ::
  (nat_lit 293, { cls := Value.type "type", data := Data.cls { name := Str.ofString "ClassDef", bases := [Value.type "object"], mro := [Value.ref 293, Value.type "object"], ns := 292, qualname := Str.ofString "ClassDef" }, slots := #[none, none, some (Value.str (Str.ofString "ClassDef") 546), some (Value.str (Str.ofString "ClassDef") 554), some (Value.builtin "object.__new__"), some (Value.bool true)] }) ::
  (nat_lit 294, { cls := Value.type "getset_descriptor", data := Data.fields #[Value.str (Str.ofString "__dict__") 599, Value.ref 293, Value.builtin "function.__dict__", Value.builtin "function.__dict__#set"] }) ::
  (nat_lit 295, { cls := Value.type "getset_descriptor", data := Data.fields #[Value.str (Str.ofString "__weakref__") 601, Value.ref 293, Value.builtin "ExceptionGroup.__weakref__", Value.none] }) ::
  (nat_lit 305, { cls := Value.type "tuple", data := Data.seq #[] }) ::
  (nat_lit 307, { cls := Value.type "tuple", data := Data.seq #[Value.str (Str.ofString "self") 623, Value.str (Str.ofString "glyphs") 624] }) ::
  (nat_lit 308, { cls := Value.type "tuple", data := Data.seq #[] }) ::
  (nat_lit 310, { cls := Value.type "code", data := Data.fields #[Value.str (Str.ofString "__init__") 620, Value.str (Str.ofString "Coverage.__init__") 621, Value.str (Str.ofString "/claim/cut.py") 622, Value.int 165 0, Value.int 2 0, Value.int 0 0, Value.int 0 0, Value.int 3 0, Value.ref 305, Value.bool true, Value.int 181 0, Value.ref 306, Value.none, Value.ref 307, Value.ref 308, Value.ref 309, Value.int 625 0, Value.int 165 0, Value.str (Str.ofString "/claim/cut.py") 626] }) ::
  (nat_lit 311, fO (fm 31 0) (Str.ofString "Coverage.__init__") (Str.ofString "joinedhand.coverage") 606 310 Value.none) ::
  (nat_lit 312, { cls := Value.type "tuple", data := Data.seq #[] }) ::
  (nat_lit 314, { cls := Value.type "tuple", data := Data.seq #[Value.str (Str.ofString "self") 631, Value.str (Str.ofString "glyph") 632, Value.str (Str.ofString "low") 633, Value.str (Str.ofString "high") 634, Value.str (Str.ofString "middle") 635] }) ::
  (nat_lit 315, { cls := Value.type "tuple", data := Data.seq #[] }) ::
  (nat_lit 317, { cls := Value.type "code", data := Data.fields #[Value.str (Str.ofString "index") 628, Value.str (Str.ofString "Coverage.index") 629, Value.str (Str.ofString "/claim/cut.py") 630, Value.int 168 0, Value.int 2 0, Value.int 0 0, Value.int 0 0, Value.int 3 0, Value.ref 312, Value.bool true, Value.int 181 0, Value.ref 313, Value.none, Value.ref 314, Value.ref 315, Value.ref 316, Value.int 636 0, Value.int 168 0, Value.str (Str.ofString "/claim/cut.py") 637] }) ::
  (nat_lit 318, fO (fm 31 1) (Str.ofString "Coverage.index") (Str.ofString "joinedhand.coverage") 606 317 Value.none) ::
  (nat_lit 319, { cls := Value.type "tuple", data := Data.seq #[] }) ::
  (nat_lit 321, { cls := Value.type "tuple", data := Data.seq #[Value.str (Str.ofString "self") 642, Value.str (Str.ofString "glyph") 643] }) ::
  (nat_lit 322, { cls := Value.type "tuple", data := Data.seq #[] }) ::
  (nat_lit 324, { cls := Value.type "code", data := Data.fields #[Value.str (Str.ofString "has") 639, Value.str (Str.ofString "Coverage.has") 640, Value.str (Str.ofString "/claim/cut.py") 641, Value.int 181 0, Value.int 2 0, Value.int 0 0, Value.int 0 0, Value.int 3 0, Value.ref 319, Value.bool true, Value.int 181 0, Value.ref 320, Value.none, Value.ref 321, Value.ref 322, Value.ref 323, Value.int 644 0, Value.int 181 0, Value.str (Str.ofString "/claim/cut.py") 645] }) ::
  (nat_lit 325, fO (fm 31 2) (Str.ofString "Coverage.has") (Str.ofString "joinedhand.coverage") 606 324 Value.none) ::
  (nat_lit 326, { cls := Value.type "tuple", data := Data.seq #[] }) ::
  (nat_lit 328, { cls := Value.type "tuple", data := Data.seq #[Value.str (Str.ofString "self") 650] }) ::
  (nat_lit 329, { cls := Value.type "tuple", data := Data.seq #[] }) ::
  (nat_lit 331, { cls := Value.type "code", data := Data.fields #[Value.str (Str.ofString "told") 647, Value.str (Str.ofString "Coverage.told") 648, Value.str (Str.ofString "/claim/cut.py") 649, Value.int 184 0, Value.int 1 0, Value.int 0 0, Value.int 0 0, Value.int 3 0, Value.ref 326, Value.bool true, Value.int 181 0, Value.ref 327, Value.none, Value.ref 328, Value.ref 329, Value.ref 330, Value.int 651 0, Value.int 184 0, Value.str (Str.ofString "/claim/cut.py") 652] }) ::
  (nat_lit 332, fO (fm 31 3) (Str.ofString "Coverage.told") (Str.ofString "joinedhand.coverage") 606 331 Value.none) ::
  (nat_lit 333, { cls := Value.type "tuple", data := Data.seq #[Value.str (Str.ofString "glyphs") 654] }) ::
  (nat_lit 334, { cls := Value.type "dict", data := Data.dict #[{ hash := PyData.keyHash P (Str.ofString "__module__"), key := Value.str (Str.ofString "__module__") 615, val := Value.str (Str.ofString "joinedhand.coverage") 606 }, { hash := PyData.keyHash P (Str.ofString "__firstlineno__"), key := Value.str (Str.ofString "__firstlineno__") 619, val := Value.int 163 618 }, { hash := PyData.keyHash P (Str.ofString "__init__"), key := Value.str (Str.ofString "__init__") 627, val := Value.ref 311 }, { hash := PyData.keyHash P (Str.ofString "index"), key := Value.str (Str.ofString "index") 638, val := Value.ref 318 }, { hash := PyData.keyHash P (Str.ofString "has"), key := Value.str (Str.ofString "has") 646, val := Value.ref 325 }, { hash := PyData.keyHash P (Str.ofString "told"), key := Value.str (Str.ofString "told") 653, val := Value.ref 332 }, { hash := PyData.keyHash P (Str.ofString "__static_attributes__"), key := Value.str (Str.ofString "__static_attributes__") 655, val := Value.ref 333 }, { hash := PyData.keyHash P (Str.ofString "__dict__"), key := Value.str (Str.ofString "__dict__") 657, val := Value.ref 336 }, { hash := PyData.keyHash P (Str.ofString "__weakref__"), key := Value.str (Str.ofString "__weakref__") 659, val := Value.ref 337 }, { hash := PyData.keyHash P (Str.ofString "__doc__"), key := Value.str (Str.ofString "__doc__") 660, val := Value.none }] 4 }) ::
  (nat_lit 335, { cls := Value.type "type", data := Data.cls { name := Str.ofString "Coverage", bases := [Value.type "object"], mro := [Value.ref 335, Value.type "object"], ns := 334, qualname := Str.ofString "Coverage" }, slots := #[none, none, some (Value.str (Str.ofString "Coverage") 608), some (Value.str (Str.ofString "Coverage") 616), some (Value.builtin "object.__new__"), some (Value.bool true)] }) ::
  (nat_lit 336, { cls := Value.type "getset_descriptor", data := Data.fields #[Value.str (Str.ofString "__dict__") 656, Value.ref 335, Value.builtin "function.__dict__", Value.builtin "function.__dict__#set"] }) ::
  (nat_lit 337, { cls := Value.type "getset_descriptor", data := Data.fields #[Value.str (Str.ofString "__weakref__") 658, Value.ref 335, Value.builtin "ExceptionGroup.__weakref__", Value.none] }) ::
  (nat_lit 347, { cls := Value.type "tuple", data := Data.seq #[Value.none, Value.none] }) ::
  (nat_lit 348, { cls := Value.type "tuple", data := Data.seq #[] }) ::
  (nat_lit 350, { cls := Value.type "tuple", data := Data.seq #[Value.str (Str.ofString "self") 686, Value.str (Str.ofString "classes") 687, Value.str (Str.ofString "attach") 688, Value.str (Str.ofString "sets") 689, Value.str (Str.ofString "points") 690, Value.str (Str.ofString "carets") 691] }) ::
  (nat_lit 351, { cls := Value.type "tuple", data := Data.seq #[] }) ::
  (nat_lit 353, { cls := Value.type "code", data := Data.fields #[Value.str (Str.ofString "__init__") 683, Value.str (Str.ofString "Gdef.__init__") 684, Value.str (Str.ofString "/claim/cut.py") 685, Value.int 192 0, Value.int 6 0, Value.int 0 0, Value.int 0 0, Value.int 3 0, Value.ref 348, Value.bool true, Value.int 181 0, Value.ref 349, Value.none, Value.ref 350, Value.ref 351, Value.ref 352, Value.int 692 0, Value.int 192 0, Value.str (Str.ofString "/claim/cut.py") 693] }) ::
  (nat_lit 354, fO (fm 36 0) (Str.ofString "Gdef.__init__") (Str.ofString "joinedhand.gdef") 663 353 (Value.ref 347)) ::
  (nat_lit 355, { cls := Value.type "tuple", data := Data.seq #[] }) ::
  (nat_lit 357, { cls := Value.type "tuple", data := Data.seq #[Value.str (Str.ofString "self") 698, Value.str (Str.ofString "glyph") 699, Value.str (Str.ofString "number") 700] }) ::
  (nat_lit 358, { cls := Value.type "tuple", data := Data.seq #[] }) ::
  (nat_lit 360, { cls := Value.type "code", data := Data.fields #[Value.str (Str.ofString "glyph_class") 695, Value.str (Str.ofString "Gdef.glyph_class") 696, Value.str (Str.ofString "/claim/cut.py") 697, Value.int 199 0, Value.int 2 0, Value.int 0 0, Value.int 0 0, Value.int 3 0, Value.ref 355, Value.bool true, Value.int 181 0, Value.ref 356, Value.none, Value.ref 357, Value.ref 358, Value.ref 359, Value.int 701 0, Value.int 199 0, Value.str (Str.ofString "/claim/cut.py") 702] }) ::
  (nat_lit 361, fO (fm 36 1) (Str.ofString "Gdef.glyph_class") (Str.ofString "joinedhand.gdef") 663 360 Value.none) ::
  (nat_lit 362, { cls := Value.type "tuple", data := Data.seq #[] }) ::
  (nat_lit 364, { cls := Value.type "tuple", data := Data.seq #[Value.str (Str.ofString "self") 707, Value.str (Str.ofString "glyph") 708] }) ::
  (nat_lit 365, { cls := Value.type "tuple", data := Data.seq #[] }) ::
  (nat_lit 367, { cls := Value.type "code", data := Data.fields #[Value.str (Str.ofString "attach_class") 704, Value.str (Str.ofString "Gdef.attach_class") 705, Value.str (Str.ofString "/claim/cut.py") 706, Value.int 203 0, Value.int 2 0, Value.int 0 0, Value.int 0 0, Value.int 3 0, Value.ref 362, Value.bool true, Value.int 181 0, Value.ref 363, Value.none, Value.ref 364, Value.ref 365, Value.ref 366, Value.int 709 0, Value.int 203 0, Value.str (Str.ofString "/claim/cut.py") 710] }) ::
  (nat_lit 368, fO (fm 36 2) (Str.ofString "Gdef.attach_class") (Str.ofString "joinedhand.gdef") 663 367 Value.none) ::
  (nat_lit 369, { cls := Value.type "tuple", data := Data.seq #[] }) ::
  (nat_lit 371, { cls := Value.type "tuple", data := Data.seq #[Value.str (Str.ofString "self") 715, Value.str (Str.ofString "number") 716, Value.str (Str.ofString "glyph") 717] }) ::
  (nat_lit 372, { cls := Value.type "tuple", data := Data.seq #[] }) ::
  (nat_lit 374, { cls := Value.type "code", data := Data.fields #[Value.str (Str.ofString "is_in_set") 712, Value.str (Str.ofString "Gdef.is_in_set") 713, Value.str (Str.ofString "/claim/cut.py") 714, Value.int 206 0, Value.int 3 0, Value.int 0 0, Value.int 0 0, Value.int 3 0, Value.ref 369, Value.bool true, Value.int 181 0, Value.ref 370, Value.none, Value.ref 371, Value.ref 372, Value.ref 373, Value.int 718 0, Value.int 206 0, Value.str (Str.ofString "/claim/cut.py") 719] }) ::
  (nat_lit 375, fO (fm 36 3) (Str.ofString "Gdef.is_in_set") (Str.ofString "joinedhand.gdef") 663 374 Value.none) ::
  (nat_lit 376, { cls := Value.type "tuple", data := Data.seq #[] }) ::
  (nat_lit 379, { cls := Value.type "code", data := Data.fields #[Value.str (Str.ofString "told") 721, Value.str (Str.ofString "Gdef.told") 722, Value.str (Str.ofString "/claim/cut.py") 723, Value.int 209 0, Value.int 1 0, Value.int 0 0, Value.int 0 0, Value.int 3 0, Value.ref 376, Value.bool true, Value.int 181 0, Value.ref 377, Value.none, Value.none, Value.none, Value.ref 378, Value.int 724 0, Value.int 209 0, Value.str (Str.ofString "/claim/cut.py") 725] }) ::
  (nat_lit 380, fO (fm 36 4) (Str.ofString "Gdef.told") (Str.ofString "joinedhand.gdef") 663 379 Value.none) ::
  (nat_lit 381, { cls := Value.type "tuple", data := Data.seq #[Value.str (Str.ofString "attach") 727, Value.str (Str.ofString "carets") 728, Value.str (Str.ofString "classes") 729, Value.str (Str.ofString "points") 730, Value.str (Str.ofString "sets") 731] }) ::
  (nat_lit 382, { cls := Value.type "dict", data := Data.dict #[{ hash := PyData.keyHash P (Str.ofString "__module__"), key := Value.str (Str.ofString "__module__") 678, val := Value.str (Str.ofString "joinedhand.gdef") 663 }, { hash := PyData.keyHash P (Str.ofString "__firstlineno__"), key := Value.str (Str.ofString "__firstlineno__") 682, val := Value.int 190 681 }, { hash := PyData.keyHash P (Str.ofString "__init__"), key := Value.str (Str.ofString "__init__") 694, val := Value.ref 354 }, { hash := PyData.keyHash P (Str.ofString "glyph_class"), key := Value.str (Str.ofString "glyph_class") 703, val := Value.ref 361 }, { hash := PyData.keyHash P (Str.ofString "attach_class"), key := Value.str (Str.ofString "attach_class") 711, val := Value.ref 368 }, { hash := PyData.keyHash P (Str.ofString "is_in_set"), key := Value.str (Str.ofString "is_in_set") 720, val := Value.ref 375 }, { hash := PyData.keyHash P (Str.ofString "told"), key := Value.str (Str.ofString "told") 726, val := Value.ref 380 }, { hash := PyData.keyHash P (Str.ofString "__static_attributes__"), key := Value.str (Str.ofString "__static_attributes__") 732, val := Value.ref 381 }, { hash := PyData.keyHash P (Str.ofString "__dict__"), key := Value.str (Str.ofString "__dict__") 734, val := Value.ref 384 }, { hash := PyData.keyHash P (Str.ofString "__weakref__"), key := Value.str (Str.ofString "__weakref__") 736, val := Value.ref 385 }, { hash := PyData.keyHash P (Str.ofString "__doc__"), key := Value.str (Str.ofString "__doc__") 737, val := Value.none }] 4 }) ::
  (nat_lit 383, { cls := Value.type "type", data := Data.cls { name := Str.ofString "Gdef", bases := [Value.type "object"], mro := [Value.ref 383, Value.type "object"], ns := 382, qualname := Str.ofString "Gdef" }, slots := #[none, none, some (Value.str (Str.ofString "Gdef") 671), some (Value.str (Str.ofString "Gdef") 679), some (Value.builtin "object.__new__"), some (Value.bool true)] }) ::
  (nat_lit 384, { cls := Value.type "getset_descriptor", data := Data.fields #[Value.str (Str.ofString "__dict__") 733, Value.ref 383, Value.builtin "function.__dict__", Value.builtin "function.__dict__#set"] }) ::
  (nat_lit 385, { cls := Value.type "getset_descriptor", data := Data.fields #[Value.str (Str.ofString "__weakref__") 735, Value.ref 383, Value.builtin "ExceptionGroup.__weakref__", Value.none] }) ::
  (nat_lit 388, { cls := Value.type "tuple", data := Data.seq #[] }) ::
  (nat_lit 390, { cls := Value.type "tuple", data := Data.seq #[Value.str (Str.ofString "tape") 745, Value.str (Str.ofString "limit") 746, Value.str (Str.ofString "cells") 747, Value.str (Str.ofString "at") 748] }) ::
  (nat_lit 391, { cls := Value.type "tuple", data := Data.seq #[] }) ::
  (nat_lit 393, { cls := Value.type "code", data := Data.fields #[Value.str (Str.ofString "_law_draw") 742, Value.str (Str.ofString "_law_draw") 743, Value.str (Str.ofString "/claim/cut.py") 744, Value.int 214 0, Value.int 2 0, Value.int 0 0, Value.int 0 0, Value.int 3 0, Value.ref 388, Value.bool true, Value.int 181 0, Value.ref 389, Value.none, Value.ref 390, Value.ref 391, Value.ref 392, Value.int 749 0, Value.int 214 0, Value.str (Str.ofString "/claim/cut.py") 750] }) ::
  (nat_lit 394, fO (fd 38) (Str.ofString "_law_draw") (Str.ofString "law_nu0171_01") 740 393 Value.none) ::
  (nat_lit 395, { cls := Value.type "tuple", data := Data.seq #[] }) ::
  (nat_lit 397, { cls := Value.type "tuple", data := Data.seq #[Value.str (Str.ofString "number") 755, Value.str (Str.ofString "attach") 756, Value.str (Str.ofString "in_set") 757, Value.str (Str.ofString "flag") 758] }) ::
  (nat_lit 398, { cls := Value.type "tuple", data := Data.seq #[] }) ::
  (nat_lit 400, { cls := Value.type "code", data := Data.fields #[Value.str (Str.ofString "_law_is_ignored") 752, Value.str (Str.ofString "_law_is_ignored") 753, Value.str (Str.ofString "/claim/cut.py") 754, Value.int 219 0, Value.int 4 0, Value.int 0 0, Value.int 0 0, Value.int 3 0, Value.ref 395, Value.bool true, Value.int 181 0, Value.ref 396, Value.none, Value.ref 397, Value.ref 398, Value.ref 399, Value.int 759 0, Value.int 219 0, Value.str (Str.ofString "/claim/cut.py") 760] }) ::
  (nat_lit 401, fO (fd 39) (Str.ofString "_law_is_ignored") (Str.ofString "law_nu0171_01") 740 400 Value.none) ::
  (nat_lit 402, { cls := Value.type "tuple", data := Data.seq #[] }) ::
  (nat_lit 405, { cls := Value.type "code", data := Data.fields #[Value.str (Str.ofString "_law_test") 762, Value.str (Str.ofString "_law_test") 763, Value.str (Str.ofString "/claim/cut.py") 764, Value.int 227 0, Value.int 2 0, Value.int 0 0, Value.int 0 0, Value.int 3 0, Value.ref 402, Value.bool true, Value.int 181 0, Value.ref 403, Value.none, Value.none, Value.none, Value.ref 404, Value.int 765 0, Value.int 227 0, Value.str (Str.ofString "/claim/cut.py") 766] }) ::
  (nat_lit 406, fO (fd 40) (Str.ofString "_law_test") (Str.ofString "law_nu0171_01") 740 405 Value.none) ::
  (nat_lit 407, { cls := Value.type "tuple", data := Data.seq #[] }) ::
  (nat_lit 410, { cls := Value.type "code", data := Data.fields #[Value.str (Str.ofString "_law_moved") 768, Value.str (Str.ofString "_law_moved") 769, Value.str (Str.ofString "/claim/cut.py") 770, Value.int 235 0, Value.int 2 0, Value.int 0 0, Value.int 0 0, Value.int 3 0, Value.ref 407, Value.bool true, Value.int 181 0, Value.ref 408, Value.none, Value.none, Value.none, Value.ref 409, Value.int 771 0, Value.int 235 0, Value.str (Str.ofString "/claim/cut.py") 772] }) ::
  (nat_lit 411, fO (fd 41) (Str.ofString "_law_moved") (Str.ofString "law_nu0171_01") 740 410 Value.none) ::
  (nat_lit 412, { cls := Value.type "tuple", data := Data.seq #[] }) ::
  (nat_lit 414, { cls := Value.type "tuple", data := Data.seq #[Value.str (Str.ofString "scene") 777, Value.str (Str.ofString "at") 778, Value.str (Str.ofString "tests") 779, Value.str (Str.ofString "places") 780] }) ::
  (nat_lit 415, { cls := Value.type "tuple", data := Data.seq #[] }) ::
  (nat_lit 417, { cls := Value.type "code", data := Data.fields #[Value.str (Str.ofString "_law_answers") 774, Value.str (Str.ofString "_law_answers") 775, Value.str (Str.ofString "/claim/cut.py") 776, Value.int 239 0, Value.int 4 0, Value.int 0 0, Value.int 0 0, Value.int 3 0, Value.ref 412, Value.bool true, Value.int 181 0, Value.ref 413, Value.none, Value.ref 414, Value.ref 415, Value.ref 416, Value.int 781 0, Value.int 239 0, Value.str (Str.ofString "/claim/cut.py") 782] }) ::
  (nat_lit 418, fO (fd 42) (Str.ofString "_law_answers") (Str.ofString "law_nu0171_01") 740 417 Value.none) ::
  (nat_lit 419, { cls := Value.type "tuple", data := Data.seq #[] }) ::
  (nat_lit 422, { cls := Value.type "code", data := Data.fields #[Value.str (Str.ofString "law") 784, Value.str (Str.ofString "law") 785, Value.str (Str.ofString "/claim/cut.py") 786, Value.int 241 0, Value.int 1 0, Value.int 0 0, Value.int 0 0, Value.int 3 0, Value.ref 419, Value.bool true, Value.int 181 0, Value.ref 420, Value.none, Value.none, Value.none, Value.ref 421, Value.int 787 0, Value.int 241 0, Value.str (Str.ofString "/claim/cut.py") 788] }) ::
  (nat_lit 423, fO (fd 43) (Str.ofString "law") (Str.ofString "law_nu0171_01") 740 422 Value.none) :: []
noncomputable def VR : Program := { PySem.Challenge.pw_nu0171_01 with main := { PySem.Challenge.pw_nu0171_01.main with body := [fd 0, fd 2, fd 3, fd 4, fd 5, fd 6, fd 7, fd 8, fd 9, fd 10, fd 11, fd 13, fd 14, fd 15, fd 16, fd 17, fd 18, fd 19, fd 20, fd 21, fd 22, fd 23, fd 24, fd 26, fd 27, fd 29, fd 31, fd 33, fd 34, fd 35, fd 36, fd 38, fd 39, fd 40, fd 41, fd 42, fd 43] } }
noncomputable def viewS : { V : Program // VR = V } := by
  refine ⟨?V, ?h⟩
  case h =>
    unfold VR
    dsimp only [fd, nthS, PySem.Challenge.pw_nu0171_01]
    exact rfl
noncomputable def viewV : Program := viewS.1
theorem fill : PySem.Challenge.rw_nu0171_01.name = PySem.Challenge.rw_nu0171_01.name ∧ heapK = heapK := by
  k_fill
  exact ⟨rfl, rfl⟩

theorem calm01 : True := by
  w_top off
  exact trivial
local macro_rules | `(tactic| walk_at $s:str) => do
  let k := Lean.Syntax.mkStrLit ("W:" ++ s.getString)
  `(tactic| k_extra $k:str)
theorem row01_0 : True := by
  k_with "shade" => (have x1ᵣ := trivial; have x2ᵣ := trivial; have x3ᵣ := trivial; have x4ᵣ := trivial; have x5ᵣ := trivial; have x6ᵣ := trivial; have x7ᵣ := trivial; have x8ᵣ := trivial; have x9ᵣ := trivial; have x10ᵣ := trivial; have x11ᵣ := trivial; have x12ᵣ := trivial; have x13ᵣ := trivial; have x14ᵣ := trivial; have x15ᵣ := trivial; have x16ᵣ := trivial; have x17ᵣ := trivial; have x18ᵣ := trivial; have x19ᵣ := trivial; have x20ᵣ := trivial; have x21ᵣ := trivial; have x22ᵣ := trivial; have x23ᵣ := trivial; have x24ᵣ := trivial; have x25ᵣ := trivial; have x26ᵣ := trivial; have x27ᵣ := trivial)
  k_with "light" => (clear x1ᵣ x2ᵣ x3ᵣ x4ᵣ x5ᵣ x6ᵣ x7ᵣ x8ᵣ x9ᵣ x10ᵣ x11ᵣ x12ᵣ x13ᵣ x14ᵣ x15ᵣ x16ᵣ x17ᵣ x18ᵣ x19ᵣ x20ᵣ x21ᵣ x22ᵣ x23ᵣ x24ᵣ x25ᵣ x26ᵣ x27ᵣ)
  exact trivial
abbrev Led := List (Addr × Obj)
abbrev Pg : Program := RowW.prog (OpenRow.toRowW (OpenLaw.row PySem.Challenge.rw_nu0171_01))
/-- what a call does: d frames, u units of room; R: of what comes back and of the ledger behind it -/
noncomputable def Con (w : World) (mean : ExcName → Option Value) (mg mb : Str → Option Value) (d u : Nat) (f : Addr) (vs : List Value) (news : Led) (R : Value → Led → Prop) : Prop :=
  ∀ (dp un : Nat) (gd : Option (List Code)) (cn : Str) (cs : Scope) (a : Addr) (ccd : Value) (cl : List (Str × Addr)) (outer : List Env) (A₀ : Around) (base h₀ : Heap) (L : Addr) (m : Str → Option Value) (s : Shared) (Q E : Value → Shared → Prop),
    Below A₀ base outer h₀ → Fr h₀ L s.heap m → (heapK w.params).In h₀ → News h₀ L s.heap news → Top viewV (looseW viewV []) mean mg mb h₀ → cs.kind = .function → dp + d < recursionLimit → un + u < cLine →
    (∀ r news' h' tk', Fr h₀ L h' m → News h₀ L h' news' → R r news' → Q r { s with heap := h', toks := tk' }) →
    wpAny (model Pg w) (ktrTop dp un gd cn cs L a ccd cl outer) (call (.ref f) vs) Q E s

theorem Con.use {w : World} {mean : ExcName → Option Value} {mg mb : Str → Option Value} {d u : Nat} {f : Addr} {vs : List Value} {news : Led} {R : Value → Led → Prop} {dp un : Nat} {gd : Option (List Code)} {cn : Str} {cs : Scope} {a : Addr} {ccd : Value} {cl : List (Str × Addr)} {outer : List Env} {A₀ : Around} {base h₀ : Heap} {L : Addr} {m : Str → Option Value} {s : Shared} {Q E : Value → Shared → Prop}
    (C : Con w mean mg mb d u f vs news R) (B : Below A₀ base outer h₀) (F : Fr h₀ L s.heap m) (X : (heapK w.params).In h₀) (N : News h₀ L s.heap news) (T : Top viewV (looseW viewV []) mean mg mb h₀) (hk : cs.kind = .function) (hdp : dp + d < recursionLimit) (hun : un + u < cLine)
    (ret : ∀ r news' h' tk', Fr h₀ L h' m → News h₀ L h' news' → R r news' → Q r { s with heap := h', toks := tk' }) :
    wpAny (model Pg w) (ktrTop dp un gd cn cs L a ccd cl outer) (call (.ref f) vs) Q E s := C dp un gd cn cs a ccd cl outer A₀ base h₀ L m s Q E B F X N T hk hdp hun ret

theorem Con.mono {w : World} {mean : ExcName → Option Value} {mg mb : Str → Option Value} {d u : Nat} {f : Addr} {vs : List Value} {news : Led} {R R' : Value → Led → Prop} (C : Con w mean mg mb d u f vs news R) (h : ∀ r n, R r n → R' r n) : Con w mean mg mb d u f vs news R' :=
  fun dp un gd cn cs a ccd cl outer A₀ base h₀ L m s Q E B F X N T hk hd hu ret => C dp un gd cn cs a ccd cl outer A₀ base h₀ L m s Q E B F X N T hk hd hu fun r n h' tk F' N' hr => ret r n h' tk F' N' (h r n hr)

noncomputable def RI (news : Led) (x : Int) : Value → Led → Prop := fun r n => (∃ t, r = .int x t) ∧ ∀ p ∈ news, p ∈ n
noncomputable def RB (news : Led) (x : Bool) : Value → Led → Prop := fun r n => r = .bool x ∧ ∀ p ∈ news, p ∈ n
section
variable {w : World} {mean : ExcName → Option Value} {mg mb : Str → Option Value} {d u : Nat} {f : Addr} {vs : List Value} {news : Led} {dp un : Nat} {gd : Option (List Code)} {cn : Str} {cs : Scope} {a : Addr} {ccd : Value} {cl : List (Str × Addr)} {outer : List Env} {A₀ : Around} {base h₀ : Heap} {L : Addr} {m : Str → Option Value} {s : Shared} {Q E : Value → Shared → Prop}
theorem Con.useI {x : Int} (C : Con w mean mg mb d u f vs news (RI news x)) (B : Below A₀ base outer h₀) (F : Fr h₀ L s.heap m) (X : (heapK w.params).In h₀) (N : News h₀ L s.heap news) (T : Top viewV (looseW viewV []) mean mg mb h₀) (hk : cs.kind = .function) (hdp : dp + d < recursionLimit) (hun : un + u < cLine)
    (ret : ∀ t h' tk', Fr h₀ L h' m → News h₀ L h' news → Q (.int x t) { s with heap := h', toks := tk' }) :
    wpAny (model Pg w) (ktrTop dp un gd cn cs L a ccd cl outer) (call (.ref f) vs) Q E s :=
  C.use B F X N T hk hdp hun fun r n h' tk' F' N' hr => by
    obtain ⟨⟨t, rfl⟩, hs⟩ := hr
    exact ret t h' tk' F' (cb_drop N' hs)
theorem Con.useB {x : Bool} (C : Con w mean mg mb d u f vs news (RB news x)) (B : Below A₀ base outer h₀) (F : Fr h₀ L s.heap m) (X : (heapK w.params).In h₀) (N : News h₀ L s.heap news) (T : Top viewV (looseW viewV []) mean mg mb h₀) (hk : cs.kind = .function) (hdp : dp + d < recursionLimit) (hun : un + u < cLine)
    (ret : ∀ h' tk', Fr h₀ L h' m → News h₀ L h' news → Q (.bool x) { s with heap := h', toks := tk' }) :
    wpAny (model Pg w) (ktrTop dp un gd cn cs L a ccd cl outer) (call (.ref f) vs) Q E s :=
  C.use B F X N T hk hdp hun fun r n h' tk' F' N' hr => by
    obtain ⟨rfl, hs⟩ := hr
    exact ret h' tk' F' (cb_drop N' hs)
end

/-- a ClassDef at x with the table c -/
structure ClsAt (w : World) (news : Led) (x : Addr) (c : List (Int × Int)) : Prop where
  ex : ∃ dx d o kvs es n, (x, instObj 293 dx) ∈ news ∧ (dx, dictOf es n) ∈ news ∧ getL (Str.ofString "classes") es = some (some (.ref d)) ∧ getL (Str.ofString "class_of") es = some none ∧ (d, o) ∈ news ∧ o.IsDictOf (PySem.intKind Pg w) kvs ∧ FlatPairs PyData.int kvs (kdfD c) ∧ (d == sysModules) = false

theorem row01_1 : True := by
  k_with "W:call builtin:dict.get" => ((k_here; (with_reducible show wpAny _ _ (call (Value.builtin "dict.get") [Value.ref _, Value.int _ _, Value.int _ _]) _ _ _); k_dflt (refine kdf_get2 (TabAt.ofNews (by k_asm) (by k_mem) (by k_asm) (by k_asm) (by k_asm)) ?_); intro _))
  exact trivial


local macro_rules | `(tactic| ktn_open) => `(tactic| k_extra "ktn_open")
theorem row01_2 : True := by
  k_with "ktn_open" => ((refine wpAny_call ?_; k_dflt ktr_enter; k_steps))
  exact trivial
local macro_rules | `(tactic| tb_start) => `(tactic| k_extra "tb_start")
theorem row01_3 : True := by
  k_with "tb_start" => (((case k1 => k_asm); (case k2 => k_asm); (case k3 => k_asm); (case k4 => k_asm); (case k5 => k_asm); (case kK => first | exact rfl | assumption); (case kd => ktr_room); (case ku => ktr_units)))
  exact trivial
local macro_rules | `(tactic| k_get) => `(tactic| assumption)

theorem class_of_con {w : World} {mean : ExcName → Option Value} {mg mb : Str → Option Value} {news : Led} {x : Addr} {c : List (Int × Int)} {g : Int} {tg : Tok} (H : ClsAt w news x c) :
    Con w mean mg mb 2 16 271 [.ref x, .int g tg] news (RI news (kdfLook c g 0)) := by
  obtain ⟨dx, d, o, kvs, es, n, h1, h2, h3, h3', h4, h5, h6, h7⟩ := H.ex
  unfold Con; intro dp un gd cn csc a0 ccd cl outer A₀ base h₀ L m s Q E B F X N T hk hdp hun hret
  ktn_open
  all_goals exact hret _ _ _ _ (by k_asm) (by k_asm) ⟨⟨_, rfl⟩, by ktd_sub⟩

theorem row01_5 : True := by
  k_with "W:call ref" => ((k_here; (with_reducible show wpAny _ _ (call (Value.ref 271) _) _ _ _); k_dflt (refine' Con.useI (class_of_con ?cH) ?k1 ?k2 ?k3 ?k4 ?k5 ?kK ?kd ?ku ?_; tb_start; (case cH => k_asm); k_whole); intro x1ᵣ x2ᵣ x3ᵣ x4ᵣ x5ᵣ; (try k_sweep); (try k_fold)))
  exact trivial


/-! while by an invariant over one or two ints of the frame and a measure -/
noncomputable def WEnd1 (h₀ : Heap) (L : Addr) (s : Shared) (I : Int → Prop) (μ : Int → Nat) (y : Str) (stored : List Str) (m₀ : Str → Option Value) (news : Led) (k : Nat) (s₂ : Shared) : Prop :=
  ∃ h' tk m' news' a ta, s₂ = { s with heap := h', toks := tk } ∧ Fr h₀ L h' m' ∧ News h₀ L h' news' ∧ (∀ p ∈ news, p ∈ news') ∧ m' y = some (.int a ta) ∧ I a ∧ μ a < k ∧ ∀ x, x ≠ y → stored.contains x = false → m' x = m₀ x
noncomputable def WPost1 (h₀ : Heap) (L : Addr) (s : Shared) (I : Int → Prop) (μ : Int → Nat) (y : Str) (stored : List Str) (m₀ : Str → Option Value) (news : Led) (Q : Flow → Shared → Prop) (k : Nat) (f : Flow) (s₂ : Shared) : Prop :=
  match f with
  | .ret v => Q (.ret v) s₂
  | .brk => Q .next s₂
  | _ => WEnd1 h₀ L s I μ y stored m₀ news k s₂
theorem WEnd1.intro {h₀ : Heap} {L : Addr} {s : Shared} {I : Int → Prop} {μ : Int → Nat} {y : Str} {stored : List Str} {m₀ m' : Str → Option Value} {news news' : Led} {k : Nat} {h' : Heap} {tk : Nat} {a : Int} {ta : Tok}
    (F : Fr h₀ L h' m') (N : News h₀ L h' news') (hn : ∀ p ∈ news, p ∈ news') (hy : m' y = some (.int a ta)) (hI : I a) (hk : μ a < k) (hm : ∀ x, x ≠ y → stored.contains x = false → m' x = m₀ x) :
    WEnd1 h₀ L s I μ y stored m₀ news k { s with heap := h', toks := tk } := ⟨h', tk, m', news', a, ta, rfl, F, N, hn, hy, hI, hk, hm⟩
noncomputable def WEnd2 (h₀ : Heap) (L : Addr) (s : Shared) (I : Int → Int → Prop) (μ : Int → Int → Nat) (y z : Str) (stored : List Str) (m₀ : Str → Option Value) (news : Led) (k : Nat) (s₂ : Shared) : Prop :=
  ∃ h' tk m' news' a ta b tb, s₂ = { s with heap := h', toks := tk } ∧ Fr h₀ L h' m' ∧ News h₀ L h' news' ∧ (∀ p ∈ news, p ∈ news') ∧ m' y = some (.int a ta) ∧ m' z = some (.int b tb) ∧ I a b ∧ μ a b < k ∧ ∀ x, x ≠ y → x ≠ z → stored.contains x = false → m' x = m₀ x
noncomputable def WPost2 (h₀ : Heap) (L : Addr) (s : Shared) (I : Int → Int → Prop) (μ : Int → Int → Nat) (y z : Str) (stored : List Str) (m₀ : Str → Option Value) (news : Led) (Q : Flow → Shared → Prop) (k : Nat) (f : Flow) (s₂ : Shared) : Prop :=
  match f with
  | .ret v => Q (.ret v) s₂
  | .brk => Q .next s₂
  | _ => WEnd2 h₀ L s I μ y z stored m₀ news k s₂
theorem WEnd2.intro {h₀ : Heap} {L : Addr} {s : Shared} {I : Int → Int → Prop} {μ : Int → Int → Nat} {y z : Str} {stored : List Str} {m₀ m' : Str → Option Value} {news news' : Led} {k : Nat} {h' : Heap} {tk : Nat} {a b : Int} {ta tb : Tok}
    (F : Fr h₀ L h' m') (N : News h₀ L h' news') (hn : ∀ p ∈ news, p ∈ news') (hy : m' y = some (.int a ta)) (hz : m' z = some (.int b tb)) (hI : I a b) (hk : μ a b < k) (hm : ∀ x, x ≠ y → x ≠ z → stored.contains x = false → m' x = m₀ x) :
    WEnd2 h₀ L s I μ y z stored m₀ news k { s with heap := h', toks := tk } := ⟨h', tk, m', news', a, ta, b, tb, rfl, F, N, hn, hy, hz, hI, hk, hm⟩
section
variable {prog : Program} {w : World} {A : Around} {E : Value → Shared → Prop} {Q : Flow → Shared → Prop} {s : Shared} {env : Env} {h₀ : Heap} {L : Addr}
theorem wh1 {test : Expr} {body : List Stmt} {pos : Pos} {m₀ : Str → Option Value} {news : Led} {y : Str} {a₀ : Int} {t₀ : Tok} (stored : List Str) (I : Int → Prop) (μ : Int → Nat)
    (F : Fr h₀ L s.heap m₀) (N : News h₀ L s.heap news) (hy : m₀ y = some (.int a₀ t₀)) (hi : I a₀)
    (turn : ∀ a ta (u : Str → Option Value) h tk, I a → Fr h₀ L h (fun x => if x = y then some (.int a ta) else if stored.contains x then u x else m₀ x) → News h₀ L h news →
      wpAny (model prog w) A (isTrue test env (eval test env)) (fun b s₂ =>
        if b = true then wpAny (model prog w) A (execs body env) (WPost1 h₀ L s I μ y stored m₀ news Q (μ a)) E s₂ else Q .next s₂) E { s with heap := h, toks := tk })
    (hE : PassesOwn (model prog w) A env E := by passes_own) :
    wpAny (model prog w) A (exec (.While test body [] pos) env) Q E s := by
  refine While_inv2 (fun n m nx => nx = news ∧ ∃ a ta, μ a = n ∧ m y = some (.int a ta) ∧ I a ∧ ∀ x, x ≠ y → stored.contains x = false → m x = m₀ x) F N ⟨rfl, a₀, t₀, rfl, hy, hi, fun _ _ _ => rfl⟩ ?_ hE
  rintro n m₁ nx h tk F₁ N₁ ⟨hnx, a, ta, hsz, hv, hI, hm⟩
  rw [hnx] at N₁
  have e : (fun x => if x = y then some (.int a ta) else if stored.contains x then m₁ x else m₀ x) = m₁ := by
    funext x
    by_cases h1 : x = y
    · subst h1; simp [hv]
    · simp only [if_neg h1]
      cases h9 : stored.contains x with
      | true => simp
      | false => simp only [Bool.false_eq_true, if_false]; exact (hm x h1 h9).symm
  refine wpAny_mono (turn a ta m₁ h tk hI (by rw [e]; exact F₁) N₁) (fun b s₂ p => ?_) fun _ _ x => x
  cases b with
  | false => simpa using p
  | true =>
    simp only [if_true] at p ⊢
    refine wpAny_mono p (fun f s₃ q => ?_) fun _ _ x => x
    cases f with
    | ret v => exact q
    | brk => exact q
    | next =>
      obtain ⟨h', tk', m', news', a', ta', rfl, F', N', hn, hv', hI', hs, hm'⟩ := q
      exact ⟨h', tk', m', news, μ a', rfl, F', fun p hp => N' p (hn p hp), by omega, rfl, a', ta', rfl, hv', hI', hm'⟩
    | cont =>
      obtain ⟨h', tk', m', news', a', ta', rfl, F', N', hn, hv', hI', hs, hm'⟩ := q
      exact ⟨h', tk', m', news, μ a', rfl, F', fun p hp => N' p (hn p hp), by omega, rfl, a', ta', rfl, hv', hI', hm'⟩
theorem wh2 {test : Expr} {body : List Stmt} {pos : Pos} {m₀ : Str → Option Value} {news : Led} {y z : Str} {a₀ b₀ : Int} {t₀ u₀ : Tok} (stored : List Str) (I : Int → Int → Prop) (μ : Int → Int → Nat)
    (F : Fr h₀ L s.heap m₀) (N : News h₀ L s.heap news) (hy : m₀ y = some (.int a₀ t₀)) (hz : m₀ z = some (.int b₀ u₀)) (hi : I a₀ b₀)
    (turn : ∀ a ta b tb (u : Str → Option Value) h tk, I a b → Fr h₀ L h (fun x => if x = y then some (.int a ta) else if x = z then some (.int b tb) else if stored.contains x then u x else m₀ x) → News h₀ L h news →
      wpAny (model prog w) A (isTrue test env (eval test env)) (fun t s₂ =>
        if t = true then wpAny (model prog w) A (execs body env) (WPost2 h₀ L s I μ y z stored m₀ news Q (μ a b)) E s₂ else Q .next s₂) E { s with heap := h, toks := tk })
    (hE : PassesOwn (model prog w) A env E := by passes_own) :
    wpAny (model prog w) A (exec (.While test body [] pos) env) Q E s := by
  refine While_inv2 (fun n m nx => nx = news ∧ ∃ a ta b tb, μ a b = n ∧ m y = some (.int a ta) ∧ m z = some (.int b tb) ∧ I a b ∧ ∀ x, x ≠ y → x ≠ z → stored.contains x = false → m x = m₀ x) F N ⟨rfl, a₀, t₀, b₀, u₀, rfl, hy, hz, hi, fun _ _ _ _ => rfl⟩ ?_ hE
  rintro n m₁ nx h tk F₁ N₁ ⟨hnx, a, ta, b, tb, hsz, hv, hv2, hI, hm⟩
  rw [hnx] at N₁
  have e : (fun x => if x = y then some (.int a ta) else if x = z then some (.int b tb) else if stored.contains x then m₁ x else m₀ x) = m₁ := by
    funext x
    by_cases h1 : x = y
    · subst h1; simp [hv]
    · simp only [if_neg h1]
      by_cases h2 : x = z
      · subst h2; simp [hv2]
      · simp only [if_neg h2]
        cases h9 : stored.contains x with
        | true => simp
        | false => simp only [Bool.false_eq_true, if_false]; exact (hm x h1 h2 h9).symm
  refine wpAny_mono (turn a ta b tb m₁ h tk hI (by rw [e]; exact F₁) N₁) (fun t s₂ p => ?_) fun _ _ x => x
  cases t with
  | false => simpa using p
  | true =>
    simp only [if_true] at p ⊢
    refine wpAny_mono p (fun f s₃ q => ?_) fun _ _ x => x
    cases f with
    | ret v => exact q
    | brk => exact q
    | next =>
      obtain ⟨h', tk', m', news', a', ta', b', tb', rfl, F', N', hn, hv', hv2', hI', hs, hm'⟩ := q
      exact ⟨h', tk', m', news, μ a' b', rfl, F', fun p hp => N' p (hn p hp), by omega, rfl, a', ta', b', tb', rfl, hv', hv2', hI', hm'⟩
    | cont =>
      obtain ⟨h', tk', m', news', a', ta', b', tb', rfl, F', N', hn, hv', hv2', hI', hs, hm'⟩ := q
      exact ⟨h', tk', m', news, μ a' b', rfl, F', fun p hp => N' p (hn p hp), by omega, rfl, a', ta', b', tb', rfl, hv', hv2', hI', hm'⟩
end
theorem row01_6 : True := by
  k_with "W:WPost1" => ((dsimp only [WPost1]))
  exact trivial
theorem row01_7 : True := by
  k_with "W:WPost2" => ((dsimp only [WPost2]))
  exact trivial
theorem row01_8 : True := by
  k_with "W:WEnd1" => ((refine WEnd1.intro (by assumption) (by assumption) (by k_sub) (by with_unfolding_all rfl) ?_ ?_ (by kwd_same0)))
  exact trivial
theorem row01_9 : True := by
  k_with "W:WEnd2" => ((refine WEnd2.intro (by assumption) (by assumption) (by k_sub) (by with_unfolding_all rfl) (by with_unfolding_all rfl) ?_ ?_ (by kwd_same1)))
  exact trivial
theorem row01_10 : True := by
  k_with "W:exec While Compare cons nil" => ((k_here; k_extra "my while"))
  exact trivial

theorem calm02 : True := by
  w_top off
  exact trivial
/-- a Gdef at x -/
structure GdefAt (w : World) (news : Led) (x : Addr) (cs as : List (Int × Int)) : Prop where
  ex : ∃ dx c a es n, (x, instObj 383 dx) ∈ news ∧ (dx, dictOf es n) ∈ news ∧ getL (Str.ofString "classes") es = some (some (.ref c)) ∧ getL (Str.ofString "attach") es = some (some (.ref a)) ∧ 
    getL (Str.ofString "glyph_class") es = some none ∧ getL (Str.ofString "attach_class") es = some none ∧ getL (Str.ofString "is_in_set") es = some none ∧ ClsAt w news c cs ∧ ClsAt w news a as

noncomputable def glyM (n : Int) : Int := if 1 ≤ n ∧ n ≤ 4 then n else 0


theorem glyph_class_con {w : World} {mean : ExcName → Option Value} {mg mb : Str → Option Value} {news : Led} {x : Addr} {cs as : List (Int × Int)} {g : Int} {tg : Tok} (H : GdefAt w news x cs as) :
    Con w mean mg mb 4 32 361 [.ref x, .int g tg] news (RI news (glyM (kdfLook cs g 0))) := by
  obtain ⟨dx, c, a, es, n, h1, h2, h3, h4, h3', h4', h4'', h5, h6⟩ := H.ex
  obtain ⟨dx', d, o, kvs, es', n', u1, u2, u3, u3', u4, u5, u6, u7⟩ := h5.ex
  unfold Con; intro dp un gd cn csc a0 ccd cl outer A₀ base h₀ L m s Q E B F X N T hk hdp hun hret
  ktn_open
  all_goals exact hret _ _ _ _ (by k_asm) (by k_asm) ⟨ktn_int (by unfold glyM; split <;> omega), by ktd_sub⟩

theorem attach_class_con {w : World} {mean : ExcName → Option Value} {mg mb : Str → Option Value} {news : Led} {x : Addr} {cs as : List (Int × Int)} {g : Int} {tg : Tok} (H : GdefAt w news x cs as) :
    Con w mean mg mb 4 32 368 [.ref x, .int g tg] news (RI news (kdfLook as g 0)) := by
  obtain ⟨dx, c, a, es, n, h1, h2, h3, h4, h3', h4', h4'', h5, h6⟩ := H.ex
  obtain ⟨dx', d, o, kvs, es', n', u1, u2, u3, u3', u4, u5, u6, u7⟩ := h6.ex
  unfold Con; intro dp un gd cn csc a0 ccd cl outer A₀ base h₀ L m s Q E B F X N T hk hdp hun hret
  ktn_open
  all_goals exact hret _ _ _ _ (by k_asm) (by k_asm) ⟨⟨_, rfl⟩, by ktd_sub⟩

theorem attach_wanted_con {w : World} {mean : ExcName → Option Value} {mg mb : Str → Option Value} {news : Led} {g : Int} {tg : Tok} :
    Con w mean mg mb 2 16 76 [.int g tg] news (RI news (Int.fmod (Int.fdiv g 256) 256)) := by
  unfold Con; intro dp un gd cn csc a0 ccd cl outer A₀ base h₀ L m s Q E B F X N T hk hdp hun hret
  ktn_open
  all_goals exact hret _ _ _ _ (by k_asm) (by k_asm) ⟨⟨_, rfl⟩, by ktd_sub⟩

noncomputable def bitM (n : Int) : Int := if n = 1 then 2 else if n = 2 then 4 else if n = 3 then 8 else 0

theorem class_bit_con {w : World} {mean : ExcName → Option Value} {mg mb : Str → Option Value} {news : Led} {g : Int} {tg : Tok} :
    Con w mean mg mb 2 16 83 [.int g tg] news (RI news (bitM g)) := by
  unfold Con; intro dp un gd cn csc a0 ccd cl outer A₀ base h₀ L m s Q E B F X N T hk hdp hun hret
  ktn_open
  all_goals exact hret _ _ _ _ (by k_asm) (by k_asm) ⟨ktn_int (by simp [bitM, *]), by ktd_sub⟩

theorem is_borne_con {w : World} {mean : ExcName → Option Value} {mg mb : Str → Option Value} {news : Led} {sc inf ds di : Addr} {es ei : List DictEntry} {n ni : Nat} {mk : Int} {tm : Tok} {im : Int} {ti : Tok}
    (h1 : (sc, instObj 65 ds) ∈ news) (h2 : (ds, dictOf es n) ∈ news) (h3 : getL (Str.ofString "mask") es = some (some (.int mk tm)))
    (i1 : (inf, instObj 200 di) ∈ news) (i2 : (di, dictOf ei ni) ∈ news) (i3 : getL (Str.ofString "mask") ei = some (some (.int im ti))) :
    Con w mean mg mb 2 16 134 [.ref sc, .ref inf] news (RB news (Builtin.bitAnd im mk != 0)) := by
  unfold Con; intro dp un gd cn csc a0 ccd cl outer A₀ base h₀ L m s Q E B F X N T hk hdp hun hret
  ktn_open
  all_goals exact hret _ _ _ _ (by k_asm) (by k_asm) ⟨rfl, by ktd_sub⟩

theorem calm03 : True := by
  w_top off
  exact trivial
abbrev tupO (vs : List Value) (n : Nat) : Obj := { cls := .type "tuple", data := .seq vs.toArray n }
/-- a Coverage at x -/
structure CovAt (news : Led) (x : Addr) (gs : List Int) : Prop where
  ex : ∃ dx t vs n es k, (x, instObj 335 dx) ∈ news ∧ (dx, dictOf es k) ∈ news ∧ getL (Str.ofString "glyphs") es = some (some (.ref t)) ∧ getL (Str.ofString "index") es = some none ∧ getL (Str.ofString "has") es = some none ∧ (t, tupO vs n) ∈ news ∧ IntsAre vs gs
  len : gs.length ≤ 8
  up : gs.Pairwise (· < ·)

noncomputable def intR : Led → Value → Int → Prop := fun _ v d => ∃ t, v = Value.int d t

/-- between the turns of the halving -/
noncomputable def halfI (gs : List Int) (g : Int) (lo hi : Int) : Prop := 0 ≤ lo ∧ lo ≤ hi ∧ hi ≤ gs.length ∧ (∀ i : Nat, (i : Int) < lo → ∀ v, gs[i]? = some v → v < g) ∧ (∀ i : Nat, hi ≤ (i : Int) → ∀ v, gs[i]? = some v → g ≤ v)

theorem halfI_start (gs : List Int) (g : Int) : halfI gs g 0 gs.length := by
  refine ⟨Int.le_refl _, by omega, Int.le_refl _, fun i hi v _ => by omega, fun i hi v hv => ?_⟩
  have := (List.getElem?_eq_some_iff.mp hv).1
  omega
theorem getD_of {gs : List Int} {i : Nat} {v : Int} (h : gs[i]? = some v) : gs.getD i 0 = v := by simp [List.getD, h]
theorem some_getD {gs : List Int} {i : Nat} (h : i < gs.length) : gs[i]? = some (gs.getD i 0) := by simp [List.getD, h]
theorem sorted_le {gs : List Int} (hs : gs.Pairwise (· < ·)) {i j : Nat} {a b : Int} (hij : i ≤ j) (ha : gs[i]? = some a) (hb : gs[j]? = some b) : a ≤ b := by
  rcases Nat.lt_or_eq_of_le hij with h | h
  · obtain ⟨h1, e1⟩ := List.getElem?_eq_some_iff.mp ha
    obtain ⟨h2, e2⟩ := List.getElem?_eq_some_iff.mp hb
    have := List.pairwise_iff_getElem.mp hs i j h1 h2 h
    omega
  · subst h
    rw [ha] at hb
    cases hb
    exact Int.le_refl _
theorem mid_facts {lo hi : Int} (hlt : lo < hi) : lo ≤ (lo + hi).fdiv 2 ∧ (lo + hi).fdiv 2 < hi := by
  rw [Int.fdiv_eq_ediv_of_nonneg _ (show (0 : Int) ≤ 2 by decide)]
  omega
theorem halfI_up {gs : List Int} {g lo hi : Int} (hs : gs.Pairwise (· < ·)) (h : halfI gs g lo hi) (hlt : lo < hi) (hv : gs.getD ((lo + hi).fdiv 2).toNat 0 < g) : halfI gs g ((lo + hi).fdiv 2 + 1) hi := by
  obtain ⟨a, b, c, d, e⟩ := h
  obtain ⟨m1, m2⟩ := mid_facts hlt
  generalize (lo + hi).fdiv 2 = m at *
  refine ⟨by omega, by omega, c, fun i hi v hg => ?_, e⟩
  have hm : gs[m.toNat]? = some (gs.getD m.toNat 0) := some_getD (by omega)
  exact Int.lt_of_le_of_lt (sorted_le hs (by omega) hg hm) hv
theorem halfI_down {gs : List Int} {g lo hi : Int} (hs : gs.Pairwise (· < ·)) (h : halfI gs g lo hi) (hlt : lo < hi) (hv : ¬ gs.getD ((lo + hi).fdiv 2).toNat 0 < g) : halfI gs g lo ((lo + hi).fdiv 2) := by
  obtain ⟨a, b, c, d, e⟩ := h
  obtain ⟨m1, m2⟩ := mid_facts hlt
  generalize (lo + hi).fdiv 2 = m at *
  refine ⟨a, by omega, by omega, d, fun i hi v hg => ?_⟩
  have hm : gs[m.toNat]? = some (gs.getD m.toNat 0) := some_getD (by omega)
  have := sorted_le hs (by omega) hm hg
  omega
theorem halfI_in {gs : List Int} {g lo hi : Int} (h : halfI gs g lo hi) (h1 : lo < gs.length) (h2 : gs.getD lo.toNat 0 = g) : 0 ≤ lo ↔ g ∈ gs := by
  have h0 := h.1
  refine ⟨fun _ => ?_, fun _ => h0⟩
  have hm : gs[lo.toNat]? = some (gs.getD lo.toNat 0) := some_getD (by omega)
  rw [h2] at hm
  exact List.mem_of_getElem? hm
theorem halfI_out {gs : List Int} {g lo hi : Int} (h : halfI gs g lo hi) (hlt : ¬ lo < hi) (h2 : lo < gs.length → ¬ gs.getD lo.toNat 0 = g) (hs : gs.Pairwise (· < ·)) : 0 ≤ (-1 : Int) ↔ g ∈ gs := by
  refine ⟨fun h => by omega, fun hm => ?_⟩
  exfalso
  obtain ⟨a, b, c, d, e⟩ := h
  obtain ⟨i, hi⟩ := List.mem_iff_getElem?.mp hm
  have hl := (List.getElem?_eq_some_iff.mp hi).1
  by_cases h3 : (i : Int) < lo
  · exact absurd (d i h3 g hi) (Int.lt_irrefl _)
  · have hlo : lo < gs.length := by omega
    have hm : gs[lo.toNat]? = some (gs.getD lo.toNat 0) := some_getD (by omega)
    have k1 := sorted_le hs (by omega) hm hi
    have k2 := e lo.toNat (by omega) _ hm
    exact h2 hlo (by omega)
section
variable {prog : Program} {w : World} {A : Around} {E : Value → Shared → Prop} {s : Shared} {h₀ : Heap} {L : Addr} {news : Led}
theorem len_tupI {t : Addr} {vs : List Value} {gs : List Int} {n : Nat} {Q : Value → Shared → Prop} (N : News h₀ L s.heap news) (hm : (t, tupO vs n) ∈ news) (hi : IntsAre vs gs) (hl : gs.length ≤ 100)
    (h : Q (.int gs.length (s.toks + 1)) { s with toks := s.toks + 1 + 1 }) : wpAny (model prog w) A (call (.builtin "len") [.ref t]) Q E s := by
  have e : vs.toArray.size = gs.length := by rw [List.size_toArray, hi.length]
  exact len_tuple (News.isTup N hm) (by rw [e]; omega) (by rw [e]; exact h)
theorem item_tupI {value slice : PySem.Expr} {l : Addr} {vs : List Value} {ns : List Int} {n : Nat} {k : Int} {u : Tok} {Q : Value → Shared → Prop} (N : News h₀ L s.heap news) (hm : (l, tupO vs n) ∈ news) (hi : IntsAre vs ns) (hl : ns.length ≤ 100)
    (h0 : 0 ≤ k) (h1 : k < ns.length) (h : ∀ t, Q (.int (ns.getD k.toNat 0) t) s)
    (hs : subscripted slice false (.ref l) (.int k u) = operate [.ref l, .int k u] (getItem (.ref l) (.int k u)) := by with_unfolding_all rfl) :
    wpAny (model prog w) A (subscriptTail value slice (.ref l) (.int k u)) Q E s := item_anyT (News.isTup N hm) hi h0 h1 (by omega) h hs
end
theorem row03_1 : True := by
  k_with "W:call builtin:len" => ((k_here; (with_reducible show wpAny _ _ (call (Value.builtin "len") [Value.ref _]) _ _ _); k_dflt (refine' len_tupI ?k1 ?k2 ?k3 ?k4 ?_; (case k1 => k_asm); (case k2 => k_mem); (case k3 => k_asm); (case k4 => omega); k_whole)))
  exact trivial
theorem row03_2 : True := by
  k_with "W:subscriptTail" => ((k_here; (with_reducible show wpAny _ _ (subscriptTail _ _ (Value.ref _) (Value.int _ _)) _ _ _); k_dflt (refine' item_tupI ?k1 ?k2 ?k3 ?k4 ?k5 ?k6 ?_; (case k1 => k_asm); (case k2 => k_mem); (case k3 => k_asm); (case k4 => omega); (case k5 => omega); (case k6 => omega); k_whole); intro _))
  exact trivial

theorem cov_index_con {w : World} {mean : ExcName → Option Value} {mg mb : Str → Option Value} {news : Led} {x : Addr} {gs : List Int} {g : Int} {tg : Tok} (H : CovAt news x gs) :
    Con w mean mg mb 2 16 318 [.ref x, .int g tg] news (fun r n => ∃ i, RI news i r n ∧ (0 ≤ i ↔ g ∈ gs)) := by
  k_with "my while" => ((rename Fr _ _ _ _ => lF'); (rename News _ _ _ _ => lN'); (with_unfolding_all refine' wh2 (y := Str.ofString "low") (z := Str.ofString "high") [Str.ofString "middle"] (halfI gs g) (fun lo hi => (hi - lo).toNat) lF' lN' (by rfl) (by rfl) ?I0 (fun a' ta' b' tb' u' h' tk' hI' F' N' => ?_)); clear lF' lN'; (case I0 => exact halfI_start gs g); have hI := hI'; obtain ⟨hI1, hI2, hI3, -, -⟩ := hI; (try k_fold))
  have hlen := H.len
  obtain ⟨dx, t, vs, n, es, k, h1, h2, h3, h4, h5, h6, h7⟩ := H.ex
  unfold Con; intro dp un gd cn csc a0 ccd cl outer A₀ base h₀ L m s Q E B F X N T hk hdp hun hret
  have hup := H.up
  ktn_open
  all_goals first
    | exact halfI_up hup (by assumption) (by assumption) (by assumption)
    | exact halfI_down hup (by assumption) (by assumption) (by assumption)
    | exact hret _ _ _ _ (by k_asm) (by k_asm) ⟨_, ⟨⟨_, rfl⟩, by ktd_sub⟩, halfI_in (by assumption) (by assumption) (by assumption)⟩
    | exact hret _ _ _ _ (by k_asm) (by k_asm) ⟨_, ⟨⟨_, rfl⟩, by ktd_sub⟩, halfI_out (by assumption) (by assumption) (fun _ => by assumption) hup⟩
    | exact hret _ _ _ _ (by k_asm) (by k_asm) ⟨_, ⟨⟨_, rfl⟩, by ktd_sub⟩, halfI_out (by assumption) (by assumption) (fun h => absurd h (by assumption)) hup⟩

theorem Con.useX {w : World} {mean : ExcName → Option Value} {mg mb : Str → Option Value} {d u : Nat} {f : Addr} {vs : List Value} {news : Led} {dp un : Nat} {gd : Option (List Code)} {cn : Str} {cs : Scope} {a : Addr} {ccd : Value} {cl : List (Str × Addr)} {outer : List Env} {A₀ : Around} {base h₀ : Heap} {L : Addr} {m : Str → Option Value} {s : Shared} {Q E : Value → Shared → Prop}
    {P : Int → Prop} (C : Con w mean mg mb d u f vs news (fun r n => ∃ i, RI news i r n ∧ P i)) (B : Below A₀ base outer h₀) (F : Fr h₀ L s.heap m) (X : (heapK w.params).In h₀) (N : News h₀ L s.heap news) (T : Top viewV (looseW viewV []) mean mg mb h₀) (hk : cs.kind = .function) (hdp : dp + d < recursionLimit) (hun : un + u < cLine)
    (ret : ∀ x t h' tk', P x → Fr h₀ L h' m → News h₀ L h' news → Q (.int x t) { s with heap := h', toks := tk' }) :
    wpAny (model Pg w) (ktrTop dp un gd cn cs L a ccd cl outer) (call (.ref f) vs) Q E s :=
  C.use B F X N T hk hdp hun fun r n h' tk' F' N' hr => by
    obtain ⟨x, ⟨⟨t, rfl⟩, hs⟩, hp⟩ := hr
    exact ret x t h' tk' hp F' (cb_drop N' hs)

theorem row03_3 : True := by
  k_with "W:call ref" => ((k_here; (with_reducible show wpAny _ _ (call (Value.ref 318) _) _ _ _); k_dflt (refine' Con.useX (cov_index_con ?cH) ?k1 ?k2 ?k3 ?k4 ?k5 ?kK ?kd ?ku ?_; tb_start; (case cH => k_asm); k_whole); intro x1ᵣ x2ᵣ x3ᵣ x4ᵣ x5ᵣ x6ᵣ x7ᵣ; (try k_sweep); (try k_fold)))
  exact trivial

theorem cov_has_con {w : World} {mean : ExcName → Option Value} {mg mb : Str → Option Value} {news : Led} {x : Addr} {gs : List Int} {g : Int} {tg : Tok} (H : CovAt news x gs) :
    Con w mean mg mb 4 32 325 [.ref x, .int g tg] news (RB news (decide (g ∈ gs))) := by
  obtain ⟨dx, t, vs, n, es, k, h1, h2, h3, h4, h5, h6, h7⟩ := H.ex
  unfold Con; intro dp un gd cn csc a0 ccd cl outer A₀ base h₀ L m s Q E B F X N T hk hdp hun hret
  ktn_open
  all_goals first | exact hret _ _ _ _ (by k_asm) (by k_asm) ⟨by simp [*], by ktd_sub⟩

theorem calm04 : True := by
  w_top off
  exact trivial
/-- a list of refs -/
abbrev lstO (vs : List Value) (n : Nat) : Obj := { cls := .type "list", data := .seq vs.toArray n }
section
variable {prog : Program} {w : World} {A : Around} {E : Value → Shared → Prop} {s : Shared} {h₀ : Heap} {L : Addr} {news : Led}
theorem len_lstR {t : Addr} {vs : List Value} {n k : Nat} {Q : Value → Shared → Prop} (N : News h₀ L s.heap news) (hm : (t, lstO vs n) ∈ news) (hk : vs.length = k) (hl : k ≤ 100)
    (h : Q (.int k (s.toks + 1)) { s with toks := s.toks + 1 + 1 }) : wpAny (model prog w) A (call (.builtin "len") [.ref t]) Q E s := by
  have e : vs.toArray.size = k := by rw [List.size_toArray, hk]
  exact call_len_list (News.isList N hm) (by rw [e]; omega) (by rw [e]; exact h)
theorem item_lst1 {value slice : PySem.Expr} {l : Addr} {v : Value} {n : Nat} {k : Int} {u : Tok} {Q : Value → Shared → Prop} (N : News h₀ L s.heap news) (hm : (l, lstO [v] n) ∈ news)
    (h0 : 0 ≤ k) (h1 : k < 1) (h : Q v s)
    (hs : subscripted slice false (.ref l) (.int k u) = operate [.ref l, .int k u] (getItem (.ref l) (.int k u)) := by with_unfolding_all rfl) (hg : ∀ r, letTemporaryGo value (.ref l) r = pure () := by intro _; with_unfolding_all rfl) :
    wpAny (model prog w) A (subscriptTail value slice (.ref l) (.int k u)) Q E s := by
  have e : k = 0 := by omega
  subst e
  exact kim_list N hm rfl rfl (by decide) (by decide) rfl h hs hg
end

/-- a Gdef at x with one set of marks -/
structure GdefM (w : World) (news : Led) (x : Addr) (cs as : List (Int × Int)) (ms : List Int) : Prop where
  ex : ∃ dx c a st cv k es n, (x, instObj 383 dx) ∈ news ∧ (dx, dictOf es n) ∈ news ∧ getL (Str.ofString "classes") es = some (some (.ref c)) ∧ getL (Str.ofString "attach") es = some (some (.ref a)) ∧ getL (Str.ofString "sets") es = some (some (.ref st)) ∧
    getL (Str.ofString "glyph_class") es = some none ∧ getL (Str.ofString "attach_class") es = some none ∧ getL (Str.ofString "is_in_set") es = some none ∧ ClsAt w news c cs ∧ ClsAt w news a as ∧ (st, lstO [.ref cv] k) ∈ news ∧ CovAt news cv ms

theorem GdefM.at {w : World} {news : Led} {x : Addr} {cs as : List (Int × Int)} {ms : List Int} (H : GdefM w news x cs as ms) : GdefAt w news x cs as :=
  let ⟨dx, c, a, _, _, _, es, n, h1, h2, h3, h4, _, h5, h6, h7, h8, h9, _, _⟩ := H.ex
  ⟨⟨dx, c, a, es, n, h1, h2, h3, h4, h5, h6, h7, h8, h9⟩⟩

theorem row04_1 : True := by
  k_with "W:call builtin:len" => ((k_here; (with_reducible show wpAny _ _ (call (Value.builtin "len") [Value.ref _]) _ _ _); k_dflt (refine' len_lstR ?k1 ?k2 ?k3 ?k4 ?_; (case k1 => k_asm); (case k2 => k_mem); (case k3 => first | exact rfl | k_asm); (case k4 => first | omega | decide); k_whole)))
  exact trivial
theorem row04_2 : True := by
  k_with "W:subscriptTail" => ((k_here; (with_reducible show wpAny _ _ (subscriptTail _ _ (Value.ref _) (Value.int _ _)) _ _ _); k_dflt (refine' item_lst1 ?k1 ?k2 ?k5 ?k6 ?_; (case k1 => k_asm); (case k2 => k_mem); (case k5 => omega); (case k6 => omega); k_whole)))
  exact trivial
theorem row04_3 : True := by
  k_with "W:call ref" => ((k_here; (with_reducible show wpAny _ _ (call (Value.ref 325) _) _ _ _); k_dflt (refine' Con.useB (cov_has_con ?cH) ?k1 ?k2 ?k3 ?k4 ?k5 ?kK ?kd ?ku ?_; tb_start; (case cH => k_asm); k_whole); intro x1ᵣ x2ᵣ x3ᵣ x4ᵣ; (try k_sweep); (try k_fold)))
  exact trivial

theorem in_set_con {w : World} {mean : ExcName → Option Value} {mg mb : Str → Option Value} {news : Led} {x : Addr} {cs as : List (Int × Int)} {ms : List Int} {q g : Int} {tq tg : Tok} (H : GdefM w news x cs as ms) :
    Con w mean mg mb 6 48 375 [.ref x, .int q tq, .int g tg] news (RB news (decide (q = 0) && decide (g ∈ ms))) := by
  obtain ⟨dx, c, a, st, cv, k, es, n, h1, h2, h3, h4, h5, h6, h7, h8, h9, h10, h11, h12⟩ := H.ex
  have h12' := h12.ex
  obtain ⟨dx', t, vs, n', es', k', u1, u2, u3, u4, u5, u6, u7⟩ := h12'
  unfold Con; intro dp un gd cn csc a0 ccd cl outer A₀ base h₀ L m s Q E B F X N T hk hdp hun hret
  ktn_open
  all_goals exact hret _ _ _ _ (by k_asm) (by k_asm) ⟨by first | (simp [show q = 0 from by omega]; done) | (simp [show q ≠ 0 from by omega]; omega), by ktd_sub⟩

/-- a Lookup at x -/
structure LookAt (news : Led) (x : Addr) (flag q : Int) : Prop where
  ex : ∃ dx es n tf tq, (x, instObj 43 dx) ∈ news ∧ (dx, dictOf es n) ∈ news ∧ getL (Str.ofString "flag") es = some (some (.int flag tf)) ∧ getL (Str.ofString "mark_set") es = some (some (.int q tq))

noncomputable def ignM (cs as : List (Int × Int)) (ms : List Int) (flag q g : Int) : Bool :=
  if Builtin.bitAnd flag (bitM (glyM (kdfLook cs g 0))) ≠ 0 then true
  else if glyM (kdfLook cs g 0) ≠ 3 then false
  else if Builtin.bitAnd flag 16 ≠ 0 then !(decide (q = 0) && decide (g ∈ ms))
  else decide (0 < (flag.fdiv 256).fmod 256) && decide (kdfLook as g 0 ≠ (flag.fdiv 256).fmod 256)

section
variable {cs as : List (Int × Int)} {ms : List Int} {flag q g : Int}
theorem ign_a (h : Builtin.bitAnd flag (bitM (glyM (kdfLook cs g 0))) ≠ 0) : Value.bool true = .bool (ignM cs as ms flag q g) := by unfold ignM; rw [if_pos h]
theorem ign_b (h : Builtin.bitAnd flag (bitM (glyM (kdfLook cs g 0))) = 0) (h2 : glyM (kdfLook cs g 0) ≠ 3) : Value.bool false = .bool (ignM cs as ms flag q g) := by unfold ignM; rw [if_neg (by simp [h]), if_pos h2]
theorem ign_c (h : Builtin.bitAnd flag (bitM (glyM (kdfLook cs g 0))) = 0) (h2 : glyM (kdfLook cs g 0) = 3) (h3 : Builtin.bitAnd flag 16 ≠ 0) : Value.bool (!(decide (q = 0) && decide (g ∈ ms))) = .bool (ignM cs as ms flag q g) := by unfold ignM; rw [if_neg (by simp [h]), if_neg (by simp [h2]), if_pos h3]
theorem ign_d (h : Builtin.bitAnd flag (bitM (glyM (kdfLook cs g 0))) = 0) (h2 : glyM (kdfLook cs g 0) = 3) (h3 : Builtin.bitAnd flag 16 = 0) (h4 : 0 < (flag.fdiv 256).fmod 256) : Value.bool (kdfLook as g 0 != (flag.fdiv 256).fmod 256) = .bool (ignM cs as ms flag q g) := by
  unfold ignM; rw [if_neg (by simp [h]), if_neg (by simp [h2]), if_neg (by simp [h3]), decide_eq_true h4, Bool.true_and]; congr 1; rw [Bool.eq_iff_iff]; simp
theorem ign_e (h : Builtin.bitAnd flag (bitM (glyM (kdfLook cs g 0))) = 0) (h2 : glyM (kdfLook cs g 0) = 3) (h3 : Builtin.bitAnd flag 16 = 0) (h4 : ¬ 0 < (flag.fdiv 256).fmod 256) : Value.bool (decide (0 < (flag.fdiv 256).fmod 256)) = .bool (ignM cs as ms flag q g) := by
  unfold ignM; rw [if_neg (by simp [h]), if_neg (by simp [h2]), if_neg (by simp [h3]), decide_eq_false h4, Bool.false_and]
end
theorem row04_4 : True := by
  k_with "W:call ref" => ((k_here; (with_reducible show wpAny _ _ (call (Value.ref 361) _) _ _ _); k_dflt (refine' Con.useI (glyph_class_con (GdefM.at ?cH)) ?k1 ?k2 ?k3 ?k4 ?k5 ?kK ?kd ?ku ?_; tb_start; (case cH => k_asm); k_whole); intro x1ᵣ x2ᵣ x3ᵣ x4ᵣ x5ᵣ; (try k_sweep); (try k_fold)))
  exact trivial
theorem row04_5 : True := by
  k_with "W:call ref" => ((k_here; (with_reducible show wpAny _ _ (call (Value.ref 368) _) _ _ _); k_dflt (refine' Con.useI (attach_class_con (GdefM.at ?cH)) ?k1 ?k2 ?k3 ?k4 ?k5 ?kK ?kd ?ku ?_; tb_start; (case cH => k_asm); k_whole); intro x1ᵣ x2ᵣ x3ᵣ x4ᵣ x5ᵣ; (try k_sweep); (try k_fold)))
  exact trivial
theorem row04_6 : True := by
  k_with "W:call ref" => ((k_here; (with_reducible show wpAny _ _ (call (Value.ref 76) _) _ _ _); k_dflt (refine' Con.useI attach_wanted_con ?k1 ?k2 ?k3 ?k4 ?k5 ?kK ?kd ?ku ?_; tb_start; k_whole); intro x1ᵣ x2ᵣ x3ᵣ x4ᵣ x5ᵣ; (try k_sweep); (try k_fold)))
  exact trivial
theorem row04_7 : True := by
  k_with "W:call ref" => ((k_here; (with_reducible show wpAny _ _ (call (Value.ref 83) _) _ _ _); k_dflt (refine' Con.useI class_bit_con ?k1 ?k2 ?k3 ?k4 ?k5 ?kK ?kd ?ku ?_; tb_start; k_whole); intro x1ᵣ x2ᵣ x3ᵣ x4ᵣ x5ᵣ; (try k_sweep); (try k_fold)))
  exact trivial
theorem row04_8 : True := by
  k_with "W:call ref" => ((k_here; (with_reducible show wpAny _ _ (call (Value.ref 375) _) _ _ _); k_dflt (refine' Con.useB (in_set_con ?cH) ?k1 ?k2 ?k3 ?k4 ?k5 ?kK ?kd ?ku ?_; tb_start; (case cH => k_asm); k_whole); intro x1ᵣ x2ᵣ x3ᵣ x4ᵣ; (try k_sweep); (try k_fold)))
  exact trivial

theorem is_ignored_con {w : World} {mean : ExcName → Option Value} {mg mb : Str → Option Value} {news : Led} {x y : Addr} {cs as : List (Int × Int)} {ms : List Int} {flag q g : Int} {tg : Tok} (H : GdefM w news x cs as ms) (K : LookAt news y flag q) :
    Con w mean mg mb 8 64 90 [.ref x, .ref y, .int g tg] news (RB news (ignM cs as ms flag q g)) := by
  obtain ⟨dx, c, a, st, cv, k, es, n, h1, h2, h3, h4, h5, h6, h7, h8, h9, h10, h11, h12⟩ := H.ex
  obtain ⟨dy, ey, ny, tf, tq, i1, i2, i3, i4⟩ := K.ex
  unfold Con; intro dp un gd cn csc a0 ccd cl outer A₀ base h₀ L m s Q E B F X N T hk hdp hun hret
  ktn_open
  all_goals first | exact hret _ _ _ _ (by k_asm) (by k_asm) ⟨by first | exact ign_a (by assumption) | exact ign_b (by assumption) (by assumption) | exact ign_c (by assumption) (by assumption) (by assumption) | exact ign_d (by assumption) (by assumption) (by assumption) (by assumption) | exact ign_e (by assumption) (by assumption) (by assumption) (by assumption), by ktd_sub⟩

theorem calm05 : True := by
  w_top off
  exact trivial
structure Rw : Type where
  g : Int
  kd : Str
  ma : Int
noncomputable def rw0 : Rw := ⟨0, Str.ofString "", 0⟩
/-- an Info at a -/
structure InfoAt (news : Led) (a : Addr) (r : Rw) : Prop where
  ex : ∃ di ei ni tg tk tm, (a, instObj 200 di) ∈ news ∧ (di, dictOf ei ni) ∈ news ∧ getL (Str.ofString "glyph") ei = some (some (.int r.g tg)) ∧ getL (Str.ofString "kind") ei = some (some (.str r.kd tk)) ∧ getL (Str.ofString "mask") ei = some (some (.int r.ma tm))
/-- a list of Infos -/
structure RowIn (news : Led) (vs : List Value) (R : List Rw) : Prop where
  len : vs.length = R.length
  it : ∀ (i : Nat) (r : Rw), R[i]? = some r → ∃ a, vs[i]? = some (Value.ref a) ∧ InfoAt news a r
  few : R.length ≤ 8
/-- a Scene at x -/
structure SceneAt (w : World) (news : Led) (x : Addr) (R : List Rw) (mask flag q : Int) (cs as : List (Int × Int)) (ms : List Int) : Prop where
  ex : ∃ dx es n bf bd be bn l vs ln gd lk tm, (x, instObj 65 dx) ∈ news ∧ (dx, dictOf es n) ∈ news ∧ getL (Str.ofString "buffer") es = some (some (.ref bf)) ∧ getL (Str.ofString "gdef") es = some (some (.ref gd)) ∧ getL (Str.ofString "lookup") es = some (some (.ref lk)) ∧ getL (Str.ofString "mask") es = some (some (.int mask tm)) ∧
    (bf, instObj 246 bd) ∈ news ∧ (bd, dictOf be bn) ∈ news ∧ getL (Str.ofString "row") be = some (some (.ref l)) ∧ (l, lstO vs ln) ∈ news ∧ RowIn news vs R ∧ GdefM w news gd cs as ms ∧ LookAt news lk flag q

theorem item_row {prog : Program} {w : World} {A : Around} {E : Value → Shared → Prop} {s : Shared} {h₀ : Heap} {L : Addr} {news : Led} {value slice : PySem.Expr} {l : Addr} {vs : List Value} {R : List Rw} {n : Nat} {k : Int} {u : Tok} {Q : Value → Shared → Prop} (N : News h₀ L s.heap news) (hm : (l, lstO vs n) ∈ news) (hR : RowIn news vs R)
    (h0 : 0 ≤ k) (h1 : k < R.length) (h : ∀ a, InfoAt news a (R.getD k.toNat rw0) → Q (.ref a) s)
    (hs : subscripted slice false (.ref l) (.int k u) = operate [.ref l, .int k u] (getItem (.ref l) (.int k u)) := by with_unfolding_all rfl) (hg : ∀ r, letTemporaryGo value (.ref l) r = pure () := by intro _; with_unfolding_all rfl) :
    wpAny (model prog w) A (subscriptTail value slice (.ref l) (.int k u)) Q E s := by
  have hf := hR.few
  have e : R[k.toNat]? = some (R.getD k.toNat rw0) := by
    have : k.toNat < R.length := by omega
    simp [List.getD, this]
  obtain ⟨a, ha, hI⟩ := hR.it _ _ e
  exact kim_list N hm rfl rfl h0 (by omega) ha (h a hI) hs hg

theorem row05_1 : True := by
  k_with "W:subscriptTail" => ((k_here; (with_reducible show wpAny _ _ (subscriptTail _ _ (Value.ref _) (Value.int _ _)) _ _ _); k_dflt (refine' item_row ?k1 ?k2 ?k3 ?k5 ?k6 ?_; (case k1 => k_asm); (case k2 => k_mem); (case k3 => k_asm); (case k5 => first | k_asm | omega); (case k6 => first | k_asm | omega); k_whole); intro x1ᵣ x2ᵣ; have x3ᵣ := x2ᵣ.ex; obtain ⟨x4ᵣ, x5ᵣ, x6ᵣ, x7ᵣ, x8ᵣ, x9ᵣ, x10ᵣ, x11ᵣ, x12ᵣ, x13ᵣ, x14ᵣ⟩ := x3ᵣ))
  exact trivial
theorem row05_2 : True := by
  k_with "W:call builtin:len" => ((k_here; (with_reducible show wpAny _ _ (call (Value.builtin "len") [Value.ref _]) _ _ _); k_dflt (refine' len_lstR ?k1 ?k2 (RowIn.len ?k3) (Nat.le_trans (RowIn.few ?k3) (by decide)) ?_; (case k1 => k_asm); (case k2 => k_mem); (case k3 => k_asm); k_whole)))
  exact trivial
theorem row05_3 : True := by
  k_with "W:call ref" => ((k_here; (with_reducible show wpAny _ _ (call (Value.ref 90) _) _ _ _); k_dflt (refine' Con.useB (is_ignored_con ?cH ?cK) ?k1 ?k2 ?k3 ?k4 ?k5 ?kK ?kd ?ku ?_; tb_start; (case cH => k_asm); (case cK => k_asm); k_whole); intro x1ᵣ x2ᵣ x3ᵣ x4ᵣ; (try k_sweep); (try k_fold)))
  exact trivial

theorem passes_con {w : World} {mean : ExcName → Option Value} {mg mb : Str → Option Value} {news : Led} {x : Addr} {R : List Rw} {mask flag q : Int} {cs as : List (Int × Int)} {ms : List Int} {k : Int} {tk : Tok} (H : SceneAt w news x R mask flag q cs as ms) (h0 : 0 ≤ k) (h1 : k < R.length) :
    Con w mean mg mb 10 80 97 [.ref x, .int k tk] news (RB news (ignM cs as ms flag q (R.getD k.toNat rw0).g)) := by
  obtain ⟨dx, es, n, bf, bd, be, bn, l, vs, ln, gd, lk, tm, i1, i2, i3, i4, i5, i6, i7, i8, i9, i10, i11, i12, i13⟩ := H.ex
  unfold Con; intro dp un gd cn csc a0 ccd cl outer A₀ base h₀ L m s Q E B F X N T hk hdp hun hret
  ktn_open
  all_goals first | exact hret _ _ _ _ (by k_asm) (by k_asm) ⟨rfl, by ktd_sub⟩

noncomputable def fuelS (n step here : Int) : Nat := if step = 1 then (n - here).toNat else (here + 1).toNat
noncomputable def scan (n step : Int) (c : Int → Option Int) : Nat → Int → Int
  | 0, _ => -1
  | f + 1, h => if 0 ≤ h ∧ h < n then (match c h with
    | some r => r
    | none => scan n step c f (h + step)) else -1
noncomputable def scanS (n step : Int) (c : Int → Option Int) (h : Int) : Int := scan n step c (fuelS n step h) h
theorem scanS_out {n step : Int} {c : Int → Option Int} {h : Int} (o : ¬ (0 ≤ h ∧ h < n)) : scanS n step c h = -1 := by
  unfold scanS
  cases fuelS n step h with
  | zero => rfl
  | succ f => unfold scan; rw [if_neg o]
theorem scan_end {n step : Int} {c : Int → Option Int} {h T : Int} (e : scanS n step c h = T) (o : ¬ (0 ≤ h ∧ h < n)) : -1 = T := (scanS_out o).symm.trans e
theorem fuelS_step {n step h : Int} (hs : step = 1 ∨ step = -1) (i : 0 ≤ h ∧ h < n) : fuelS n step h = fuelS n step (h + step) + 1 := by
  unfold fuelS
  rcases hs with rfl | rfl
  · rw [if_pos rfl, if_pos rfl]; omega
  · rw [if_neg (by decide), if_neg (by decide)]; omega
theorem scanS_hit {n step : Int} {c : Int → Option Int} {h r : Int} (hs : step = 1 ∨ step = -1) (i : 0 ≤ h ∧ h < n) (e : c h = some r) : scanS n step c h = r := by
  unfold scanS
  rw [fuelS_step hs i]
  unfold scan
  rw [if_pos i, e]
theorem scanS_go {n step : Int} {c : Int → Option Int} {h : Int} (hs : step = 1 ∨ step = -1) (i : 0 ≤ h ∧ h < n) (e : c h = none) : scanS n step c h = scanS n step c (h + step) := by
  unfold scanS
  rw [fuelS_step hs i]
  conv => lhs; unfold scan
  rw [if_pos i, e]

theorem row05_4 : True := by
  k_with "W:call ref" => ((k_here; (with_reducible show wpAny _ _ (call (Value.ref 97) _) _ _ _); k_dflt (refine' Con.useB (passes_con ?cH ?c0 ?c1) ?k1 ?k2 ?k3 ?k4 ?k5 ?kK ?kd ?ku ?_; tb_start; (case cH => k_asm); (case c0 => first | k_asm | omega); (case c1 => first | k_asm | omega); k_whole); intro x1ᵣ x2ᵣ x3ᵣ x4ᵣ; (try k_sweep); (try k_fold)))
  exact trivial

theorem notin_K {prog : Program} {w : World} {A : Around} {E : Value → Shared → Prop} {s : Shared} {h₀ : Heap} {L a : Addr} {m : Str → Option Value} {K : Frag} {dd : Option Addr} {sl : Array (Option Value)} {l : List Value} {n : Nat} {ys : List Str} {x : Str} {u : Tok} {Q : Value → Shared → Prop} (F : Fr h₀ L s.heap m) (X₀ : K.In h₀)
    (hl : K.lookup a = some ⟨.type "tuple", dd, .seq l.toArray n, sl⟩) (hi : StrsAre l ys) (h : Q (.bool (!(ys.any (· == x)))) s) : wpAny (model prog w) A (compareOp .NotIn (.str x u) (.ref a)) Q E s :=
  notin_tuple_strs (tupK (X₀.keeps F.keep) hl) (by simpa using hi) h
theorem row05_5 : True := by
  k_with "W:compareOp NotIn str ref" => ((k_here; k_dflt (refine' notin_K ?k1 ?k2 ?k3 ?k4 ?_; (case k1 => k_asm); (case k2 => k_asm); (case k3 => first | k_asm | k_is); (case k4 => first | k_asm | exact .cons _ _ (.cons _ _ (.cons _ _ .nil)) | exact .cons _ _ (.cons _ _ .nil)); k_whole)))
  exact trivial

noncomputable def kAr : List Str := [Str.ofString "zwj", Str.ofString "zwnj", Str.ofString "hidden"]
noncomputable def kIn : List Str := [Str.ofString "zwj", Str.ofString "hidden"]
noncomputable def nbC (R : List Rw) (ig : Int → Bool) (h : Int) : Option Int := if ig (R.getD h.toNat rw0).g = true then none else if kAr.any (· == (R.getD h.toNat rw0).kd) = true then none else some h
section
variable {R : List Rw} {ig : Int → Bool} {h : Int}
theorem nbC_ig (e : ig (R.getD h.toNat rw0).g = true) : nbC R ig h = none := by unfold nbC; rw [if_pos e]
theorem nbC_kd (e : ig (R.getD h.toNat rw0).g = false) (k : kAr.any (· == (R.getD h.toNat rw0).kd) = true) : nbC R ig h = none := by unfold nbC; rw [if_neg (by rw [e]; exact Bool.false_ne_true), if_pos k]
theorem nbC_hit (e : ig (R.getD h.toNat rw0).g = false) (k : kAr.any (· == (R.getD h.toNat rw0).kd) = false) : nbC R ig h = some h := by unfold nbC; rw [if_neg (by rw [e]; exact Bool.false_ne_true), if_neg (by rw [k]; exact Bool.false_ne_true)]
end

theorem neighbour_con {w : World} {mean : ExcName → Option Value} {mg mb : Str → Option Value} {news : Led} {x : Addr} {R : List Rw} {mask flag q : Int} {cs as : List (Int × Int)} {ms : List Int} {k step : Int} {tk ts : Tok} (H : SceneAt w news x R mask flag q cs as ms) (hst : step = 1 ∨ step = -1) :
    Con w mean mg mb 12 96 113 [.ref x, .int k tk, .int step ts] news (RI news (scanS R.length step (nbC R (ignM cs as ms flag q)) (k + step))) := by
  k_with "my while" => ((rename Fr _ _ _ _ => lF'); (rename News _ _ _ _ => lN'); (with_unfolding_all refine' wh1 (y := Str.ofString "here") [] (fun h => scanS R.length step (nbC R (ignM cs as ms flag q)) h = scanS R.length step (nbC R (ignM cs as ms flag q)) (k + step)) (fun h => fuelS R.length step h) lF' lN' (by rfl) ?I0 (fun a' ta' u' h' tk' hI' F' N' => ?_)); clear lF' lN'; (case I0 => exact rfl); (try k_fold))
  obtain ⟨dx, es, n, bf, bd, be, bn, l, vs, ln, gd, lk, tm, i1, i2, i3, i4, i5, i6, i7, i8, i9, i10, i11, i12, i13⟩ := H.ex
  unfold Con; intro dp un gd cn csc a0 ccd cl outer A₀ base h₀ L m s Q E B F X N T hk hdp hun hret
  ktn_open
  all_goals first
    | exact (scanS_go hst ⟨by assumption, by assumption⟩ (nbC_ig (by assumption))).symm.trans (by assumption)
    | exact (by have := fuelS_step hst ⟨by assumption, by assumption⟩; omega)
    | exact (scanS_go hst ⟨by assumption, by assumption⟩ (nbC_kd (by assumption) (by assumption))).symm.trans (by assumption)
    | exact hret _ _ _ _ (by k_asm) (by k_asm) ⟨ktn_int ((scanS_hit hst ⟨by assumption, by assumption⟩ (nbC_hit (by assumption) (by assumption))).symm.trans (by assumption)), by ktd_sub⟩
    | exact hret _ _ _ _ (by k_asm) (by k_asm) ⟨ktn_int (scan_end (by assumption) (by omega)), by ktd_sub⟩

theorem calm06 : True := by
  w_top off
  exact trivial
inductive Tst : Type where
  | gly (n : Int)
  | cls (c : List (Int × Int)) (n : Int)
  | cov (gs : List Int)
noncomputable def fitM : Tst → Int → Bool
  | .gly n, g => decide (n = g)
  | .cls c n, g => decide (kdfLook c g 0 = n)
  | .cov gs, g => decide (g ∈ gs)
/-- a test at t -/
inductive TestAt (w : World) (news : Led) (t : Addr) : Tst → Prop where
  | gly {n : Int} {k : Nat} {ts tn : Tok} (h : (t, tupO [.str (Str.ofString "glyph") ts, .int n tn] k) ∈ news) : TestAt w news t (.gly n)
  | cls {c : List (Int × Int)} {n : Int} {k : Nat} {ts tn : Tok} {cd : Addr} (h : (t, tupO [.str (Str.ofString "class") ts, .ref cd, .int n tn] k) ∈ news) (H : ClsAt w news cd c) : TestAt w news t (.cls c n)
  | cov {gs : List Int} {k : Nat} {ts : Tok} {cv : Addr} (h : (t, tupO [.str (Str.ofString "cover") ts, .ref cv] k) ∈ news) (H : CovAt news cv gs) : TestAt w news t (.cov gs)

theorem fits_con {w : World} {mean : ExcName → Option Value} {mg mb : Str → Option Value} {news : Led} {t : Addr} {T : Tst} {g : Int} {tg : Tok} (H : TestAt w news t T) :
    Con w mean mg mb 6 48 106 [.ref t, .int g tg] news (RB news (fitM T g)) := by
  cases H with
  | gly h =>
    unfold Con; intro dp un gd cn csc a0 ccd cl outer A₀ base h₀ L m s Q E B F X N T hk hdp hun hret
    ktn_open
    all_goals first | exact hret _ _ _ _ (by k_asm) (by k_asm) ⟨rfl, by ktd_sub⟩
  | cls h H =>
    have H' := H.ex
    obtain ⟨dx, d, o, kvs, es, n, h1, h2, h3, h3', h4, h5, h6, h7⟩ := H'
    unfold Con; intro dp un gd cn csc a0 ccd cl outer A₀ base h₀ L m s Q E B F X N T hk hdp hun hret
    ktn_open
    all_goals first | exact hret _ _ _ _ (by k_asm) (by k_asm) ⟨rfl, by ktd_sub⟩
  | cov h H =>
    have H' := H.ex
    obtain ⟨dx', t, vs, n', es', k', u1, u2, u3, u4, u5, u6, u7⟩ := H'
    unfold Con; intro dp un gd cn csc a0 ccd cl outer A₀ base h₀ L m s Q E B F X N T hk hdp hun hret
    ktn_open
    all_goals first | exact hret _ _ _ _ (by k_asm) (by k_asm) ⟨rfl, by ktd_sub⟩

theorem row06_1 : True := by
  k_with "W:call ref" => ((k_here; (with_reducible show wpAny _ _ (call (Value.ref 106) _) _ _ _); k_dflt (refine' Con.useB (fits_con ?cH) ?k1 ?k2 ?k3 ?k4 ?k5 ?kK ?kd ?ku ?_; tb_start; (case cH => k_asm); k_whole); intro x1ᵣ x2ᵣ x3ᵣ x4ᵣ; (try k_sweep); (try k_fold)))
  exact trivial
theorem row06_2 : True := by
  k_with "W:call ref" => ((k_here; (with_reducible show wpAny _ _ (call (Value.ref 134) _) _ _ _); k_dflt (refine' Con.useB (is_borne_con ?c1 ?c2 ?c3 ?c4 ?c5 ?c6) ?k1 ?k2 ?k3 ?k4 ?k5 ?kK ?kd ?ku ?_; tb_start; (case c1 => k_mem); (case c2 => k_mem); (case c3 => k_asm); (case c4 => k_mem); (case c5 => k_mem); (case c6 => k_asm); k_whole); intro x1ᵣ x2ᵣ x3ᵣ x4ᵣ; (try k_sweep); (try k_fold)))
  exact trivial

theorem calm07 : True := by
  w_top off
  exact trivial
noncomputable def fdC (R : List Rw) (ig : Int → Bool) (T : Tst) (ys : List Str) (mask : Int) (b : Bool) (h : Int) : Option Int :=
  if ig (R.getD h.toNat rw0).g = true then none
  else if (fitM T (R.getD h.toNat rw0).g && ((Builtin.bitAnd (R.getD h.toNat rw0).ma mask != 0) || !b)) = true then some h
  else if ys.any (· == (R.getD h.toNat rw0).kd) = true then none else some (-1)
section
variable {R : List Rw} {ig : Int → Bool} {T : Tst} {ys : List Str} {mask : Int} {b : Bool} {h : Int}
theorem fdC_ig (e : ig (R.getD h.toNat rw0).g = true) : fdC R ig T ys mask b h = none := by unfold fdC; rw [if_pos e]
theorem fdC_hit (e : ig (R.getD h.toNat rw0).g = false) (f : fitM T (R.getD h.toNat rw0).g = true) (k : Builtin.bitAnd (R.getD h.toNat rw0).ma mask ≠ 0 ∨ b = false) : fdC R ig T ys mask b h = some h := by
  unfold fdC
  rw [if_neg (by rw [e]; exact Bool.false_ne_true), f, Bool.true_and]
  rcases k with k | k
  · rw [show (Builtin.bitAnd (R.getD h.toNat rw0).ma mask != 0) = true from bne_iff_ne.mpr k]; rfl
  · rw [k, Bool.not_false, Bool.or_true]; rfl
theorem fdC_no (e : ig (R.getD h.toNat rw0).g = false) (f : fitM T (R.getD h.toNat rw0).g = false ∨ (Builtin.bitAnd (R.getD h.toNat rw0).ma mask = 0 ∧ b = true)) : fdC R ig T ys mask b h = if ys.any (· == (R.getD h.toNat rw0).kd) = true then none else some (-1) := by
  unfold fdC
  rw [if_neg (by rw [e]; exact Bool.false_ne_true)]
  rcases f with f | ⟨f, k⟩
  · rw [f, Bool.false_and]; rfl
  · rw [f, k, show ((0 : Int) != 0) = false from rfl, Bool.not_true, Bool.or_false, Bool.and_false]; rfl
theorem fdC_go (e : ig (R.getD h.toNat rw0).g = false) (f : fitM T (R.getD h.toNat rw0).g = false ∨ (Builtin.bitAnd (R.getD h.toNat rw0).ma mask = 0 ∧ b = true)) (k : ys.any (· == (R.getD h.toNat rw0).kd) = true) : fdC R ig T ys mask b h = none := by
  rw [fdC_no e f, if_pos k]
theorem fdC_stop (e : ig (R.getD h.toNat rw0).g = false) (f : fitM T (R.getD h.toNat rw0).g = false ∨ (Builtin.bitAnd (R.getD h.toNat rw0).ma mask = 0 ∧ b = true)) (k : ys.any (· == (R.getD h.toNat rw0).kd) = false) : fdC R ig T ys mask b h = some (-1) := by
  rw [fdC_no e f, if_neg (by rw [k]; exact Bool.false_ne_true)]
end

theorem scan_stop {n step : Int} {c : Int → Option Int} {h r T : Int} (hs : step = 1 ∨ step = -1) (e : scanS n step c h = T) (i : 0 ≤ h ∧ h < n) (k : c h = some r) : r = T := (scanS_hit hs i k).symm.trans e

theorem found_con {w : World} {mean : ExcName → Option Value} {mg mb : Str → Option Value} {news : Led} {x t kt : Addr} {R : List Rw} {mask flag q : Int} {cs as : List (Int × Int)} {ms : List Int} {k step : Int} {tk ts : Tok} {T : Tst} {b : Bool} {vk : List Value} {ys : List Str} {dd : Option Addr} {sl : Array (Option Value)} {nk : Nat}
    (H : SceneAt w news x R mask flag q cs as ms) (hst : step = 1 ∨ step = -1) (HT : TestAt w news t T) (hkt : (heapK w.params).lookup kt = some ⟨.type "tuple", dd, .seq vk.toArray nk, sl⟩) (hys : StrsAre vk ys) :
    Con w mean mg mb 12 96 141 [.ref x, .int k tk, .int step ts, .ref t, .ref kt, .bool b] news (RI news (scanS R.length step (fdC R (ignM cs as ms flag q) T ys mask b) (k + step))) := by
  k_with "my while" => ((rename Fr _ _ _ _ => lF'); (rename News _ _ _ _ => lN'); (with_unfolding_all refine' wh1 (y := Str.ofString "here") [Str.ofString "info"] (fun h => scanS R.length step (fdC R (ignM cs as ms flag q) T ys mask b) h = scanS R.length step (fdC R (ignM cs as ms flag q) T ys mask b) (k + step)) (fun h => fuelS R.length step h) lF' lN' (by rfl) ?I0 (fun a' ta' u' h' tk' hI' F' N' => ?_)); clear lF' lN'; (case I0 => exact rfl); (try k_fold))
  obtain ⟨dx, es, n, bf, bd, be, bn, l, vs, ln, gd, lk, tm, i1, i2, i3, i4, i5, i6, i7, i8, i9, i10, i11, i12, i13⟩ := H.ex
  unfold Con; intro dp un gd cn csc a0 ccd cl outer A₀ base h₀ L m s Q E B F X N Tp hk hdp hun hret
  ktn_open
  all_goals first
    | exact (scanS_go hst ⟨by assumption, by assumption⟩ (fdC_ig (by assumption))).symm.trans (by assumption)
    | exact (by have := fuelS_step hst ⟨by assumption, by assumption⟩; omega)
    | exact (scanS_go hst ⟨by assumption, by assumption⟩ (fdC_go (by assumption) (.inl (by assumption)) (by assumption))).symm.trans (by assumption)
    | exact (scanS_go hst ⟨by assumption, by assumption⟩ (fdC_go (by assumption) (.inr ⟨by assumption, by assumption⟩) (by assumption))).symm.trans (by assumption)
    | exact hret _ _ _ _ (by k_asm) (by k_asm) ⟨ktn_int ((scanS_hit hst ⟨by assumption, by assumption⟩ (fdC_hit (by assumption) (by assumption) (.inl (by assumption)))).symm.trans (by assumption)), by ktd_sub⟩
    | exact hret _ _ _ _ (by k_asm) (by k_asm) ⟨ktn_int ((scanS_hit hst ⟨by assumption, by assumption⟩ (fdC_hit (by assumption) (by assumption) (.inr (by assumption)))).symm.trans (by assumption)), by ktd_sub⟩
    | exact hret _ _ _ _ (by k_asm) (by k_asm) ⟨ktn_int (scan_stop hst (by assumption) ⟨by assumption, by assumption⟩ (fdC_stop (by assumption) (.inl (by assumption)) (by assumption))), by ktd_sub⟩
    | exact hret _ _ _ _ (by k_asm) (by k_asm) ⟨ktn_int (scan_stop hst (by assumption) ⟨by assumption, by assumption⟩ (fdC_stop (by assumption) (.inr ⟨by assumption, by assumption⟩) (by assumption))), by ktd_sub⟩
    | exact hret _ _ _ _ (by k_asm) (by k_asm) ⟨ktn_int (scan_end (by assumption) (by omega)), by ktd_sub⟩

noncomputable def kAdr (b : Bool) : Addr := if b then 98 else 99
theorem row07_1 : True := by
  k_with "W:call ref" => ((k_here; (with_reducible show wpAny _ _ (call (Value.ref 141) _) _ _ _); k_dflt (refine' Con.useI (found_con ?cH ?c1 ?c2 ?c3 ?c4) ?k1 ?k2 ?k3 ?k4 ?k5 ?kK ?kd ?ku ?_; tb_start; (case cH => k_asm); (case c1 => first | k_asm | decide); (case c2 => k_asm); (case c3 => k_is); (case c4 => first | exact .cons _ _ (.cons _ _ (.cons _ _ .nil)) | exact .cons _ _ (.cons _ _ .nil)); k_whole); intro x1ᵣ x2ᵣ x3ᵣ x4ᵣ x5ᵣ; (try k_sweep); (try k_fold)))
  exact trivial
theorem row07_2 : True := by
  k_with "W:call ref" => ((k_here; (with_reducible show wpAny _ _ (call (Value.ref 113) _) _ _ _); k_dflt (refine' Con.useI (neighbour_con ?cH ?c1) ?k1 ?k2 ?k3 ?k4 ?k5 ?kK ?kd ?ku ?_; tb_start; (case cH => k_asm); (case c1 => first | k_asm | decide); k_whole); intro x1ᵣ x2ᵣ x3ᵣ x4ᵣ x5ᵣ; (try k_sweep); (try k_fold)))
  exact trivial

theorem next_con {w : World} {mean : ExcName → Option Value} {mg mb : Str → Option Value} {news : Led} {x : Addr} {R : List Rw} {mask flag q : Int} {cs as : List (Int × Int)} {ms : List Int} {k : Int} {tk : Tok} (H : SceneAt w news x R mask flag q cs as ms) :
    Con w mean mg mb 14 112 120 [.ref x, .int k tk] news (RI news (scanS R.length 1 (nbC R (ignM cs as ms flag q)) (k + 1))) := by
  unfold Con; intro dp un gd cn csc a0 ccd cl outer A₀ base h₀ L m s Q E B F X N T hk hdp hun hret
  ktn_open
  all_goals first | exact hret _ _ _ _ (by k_asm) (by k_asm) ⟨⟨_, rfl⟩, by ktd_sub⟩
theorem before_con {w : World} {mean : ExcName → Option Value} {mg mb : Str → Option Value} {news : Led} {x : Addr} {R : List Rw} {mask flag q : Int} {cs as : List (Int × Int)} {ms : List Int} {k : Int} {tk : Tok} (H : SceneAt w news x R mask flag q cs as ms) :
    Con w mean mg mb 14 112 127 [.ref x, .int k tk] news (RI news (scanS R.length (-1) (nbC R (ignM cs as ms flag q)) (k + -1))) := by
  unfold Con; intro dp un gd cn csc a0 ccd cl outer A₀ base h₀ L m s Q E B F X N T hk hdp hun hret
  ktn_open
  all_goals first | exact hret _ _ _ _ (by k_asm) (by k_asm) ⟨⟨_, rfl⟩, by ktd_sub⟩

theorem calm08 : True := by
  w_top off
  exact trivial
/-! a for over what the ledger holds: J over the turn's number, the frame's map, the ledger -/
noncomputable def FEnd (h₀ : Heap) (L I : Addr) (oI : Obj) (Jn : (Str → Option Value) → Led → Prop) (s₁ s₂ : Shared) : Prop :=
  ∃ h' tk m' news' nx, s₂ = { s₁ with heap := h', toks := tk } ∧ Fr h₀ L h' m' ∧ News h₀ L h' news' ∧ (∀ p ∈ (I, oI) :: nx, p ∈ news') ∧ (∀ p ∈ nx, p.1 ≠ I) ∧ Jn m' nx
noncomputable def FPost (h₀ : Heap) (L I : Addr) (oI : Obj) (Jn : (Str → Option Value) → Led → Prop) (s₁ : Shared) (Q : Flow → Shared → Prop) (f : Flow) (s₂ : Shared) : Prop :=
  match f with
  | .ret v => Q (.ret v) s₂
  | .brk => Q .next s₂
  | _ => FEnd h₀ L I oI Jn s₁ s₂
theorem FEnd.intro {h₀ : Heap} {L I : Addr} {oI : Obj} {Jn : (Str → Option Value) → Led → Prop} {s₁ : Shared} {h' : Heap} {tk : Nat} {m' : Str → Option Value} {news' : Led} (nx : Led)
    (F : Fr h₀ L h' m') (N : News h₀ L h' news') (hs : ∀ p ∈ (I, oI) :: nx, p ∈ news') (hI : ∀ p ∈ nx, p.1 ≠ I) (hJ : Jn m' nx) : FEnd h₀ L I oI Jn s₁ { s₁ with heap := h', toks := tk } := ⟨h', tk, m', news', nx, rfl, F, N, hs, hI, hJ⟩
section
variable {prog : Program} {w : World} {A : Around} {E : Value → Shared → Prop} {s : Shared} {env : Env} {h₀ : Heap} {x : Str} {body : List Stmt} {Q : Flow → Shared → Prop}
theorem for_core {I : Addr} {fp : List Addr} {n : Nat} {P : Nat → Value → Prop} {St : Nat → Heap → Prop} {m₀ : Str → Option Value} {news : Led} (src : Led) (J : Nat → (Str → Option Value) → Led → Prop)
    (W : Walks prog w A I fp [I] n P St) (hIf : I ∈ fp) (hfp : ∀ b ∈ fp, b ≠ I → (∃ o, h₀.get? b = some o) ∨ ∃ o, (b, o) ∈ src) (hLf : env.locals ∉ fp) (hI₀ : h₀.get? I = none) (hnw : ∀ p ∈ news, p.1 ≠ I) (hSt : ∀ i h, St i h → ∃ o, h.get? I = some o)
    (hst : St 0 s.heap) (F : Fr h₀ env.locals s.heap m₀) (N : News h₀ env.locals s.heap news) (hj : J 0 m₀ news) (hsrc : ∀ i m nx, J i m nx → ∀ p ∈ src, p ∈ nx)
    (turn : ∀ i v m₁ nx h tk oI, i < n → P i v → J i m₁ nx → (∀ p ∈ nx, p.1 ≠ I) → Fr h₀ env.locals h (fun y => if y = x then some v else m₁ y) → News h₀ env.locals h ((I, oI) :: nx) →
      wpAny (model prog w) A (execs body env) (FPost h₀ env.locals I oI (J (i + 1)) { s with heap := h, toks := tk } Q) E { s with heap := h, toks := tk })
    (done : ∀ m₁ nx h tk, J n m₁ nx → Fr h₀ env.locals h m₁ → News h₀ env.locals h nx → Q .next { s with heap := h, toks := tk }) :
    LoopAtV prog w A h₀ env x body Q E (.ref I) s := by
  refine ⟨I, fp, [I], n, P, St, m₀, news, J, rfl, W, hLf, ?_, ?_, hst, F, N, hj, ?_, ?_⟩
  · intro b hb
    rw [List.mem_singleton.mp hb]
    exact hI₀
  · intro p hp hI
    exact hnw p hp (List.mem_singleton.mp hI)
  · rintro i v m₁ news₁ s₁ own ⟨hh', tk', rfl⟩ hin hP hJ hoff h5 _ h7 hs F₁ N₁
    obtain ⟨oI, hoI⟩ := hSt _ _ hs
    have own1 : ∀ p ∈ own, p = (I, oI) ∨ p ∈ src := fun p hp => by
      have a := N₁ p (List.mem_append.mpr (.inl hp))
      rcases Decidable.em (p.1 = I) with q | q
      · have c := a.1
        rw [q] at c
        exact .inl (Prod.ext q (Option.some.inj (c.symm.trans hoI)))
      · rcases hfp p.1 (h5 p hp) q with ⟨o, ho⟩ | ⟨o, ho⟩
        · rw [a.2.2] at ho
          cases ho
        · have c := (N₁ (p.1, o) (List.mem_append.mpr (.inr (hsrc _ _ _ hJ _ ho)))).1
          have e : p = (p.1, o) := Prod.ext rfl (Option.some.inj (a.1.symm.trans c))
          exact .inr (e ▸ ho)
    have NI : News h₀ env.locals hh' ((I, oI) :: news₁) := fun p hp => by
      rcases List.mem_cons.mp hp with rfl | hp
      · exact N₁ _ (List.mem_append.mpr (.inl (h7 I hIf hI₀ oI hoI)))
      · exact N₁ p (List.mem_append.mpr (.inr hp))
    refine wpAny_mono (turn i v m₁ news₁ hh' tk' oI hin hP hJ (fun p hp e => hoff p hp (List.mem_singleton.mpr e)) F₁ NI) (fun f s₂ p => ?_) fun _ _ e => e
    have fin : FEnd h₀ env.locals I oI (J (i + 1)) { s with heap := hh', toks := tk' } s₂ → LoopStepU h₀ env.locals [I] own (J (i + 1)) { s with heap := hh', toks := tk' } .next s₂ := by
      rintro ⟨h', tk, m', news', nx, e, F', N', hn, hI, hm⟩
      refine ⟨rfl, h', tk, m', nx, e, F', fun p hp => ?_, fun p hp q => hI p hp (List.mem_singleton.mp q), hm⟩
      rcases List.mem_append.mp hp with hp | hp
      · rcases own1 p hp with rfl | hp
        · exact N' _ (hn _ List.mem_cons_self)
        · exact N' p (hn p (List.mem_cons_of_mem _ (hsrc _ _ _ hm p hp)))
      · exact N' p (hn p (List.mem_cons_of_mem _ hp))
    cases f with
    | ret v => exact .ret p
    | brk => exact .brk p
    | next => exact .next (fin p)
    | cont => exact .cont (fin p)
  · rintro h' tk m' news' F' N' _ hJ
    exact done m' news' h' tk hJ F' N'

theorem for_tupJ {l : Addr} {vs : List Value} {k : Nat} {m₀ : Str → Option Value} {news : Led} (J : Nat → (Str → Option Value) → Led → Prop)
    (hh : A.handled = none) (hm : (l, tupO vs k) ∈ news) (F : Fr h₀ env.locals s.heap m₀) (N : News h₀ env.locals s.heap news) (hj : J 0 m₀ news) (hsrc : ∀ i m nx, J i m nx → (l, tupO vs k) ∈ nx)
    (turn : ∀ i v m₁ nx h tk I oI, vs[i]? = some v → J i m₁ nx → (∀ p ∈ news, p.1 < I) → (∀ p ∈ nx, p.1 ≠ I) → Fr h₀ env.locals h (fun y => if y = x then some v else m₁ y) → News h₀ env.locals h ((I, oI) :: nx) →
      wpAny (model prog w) A (execs body env) (FPost h₀ env.locals I oI (J (i + 1)) { s with heap := h, toks := tk } Q) E { s with heap := h, toks := tk })
    (done : ∀ m₁ nx h tk, J vs.length m₁ nx → Fr h₀ env.locals h m₁ → News h₀ env.locals h nx → Q .next { s with heap := h, toks := tk }) :
    wpAny (model prog w) A (pyIter (.ref l)) (fun it s₂ => LoopAtV prog w A h₀ env x body Q E it s₂) E s := by
  have hg := (N _ hm).1
  have hl : s.heap.IsTuple l vs.toArray := ⟨_, hg, rfl, _, rfl⟩
  have hlt : l < s.heap.objs.size := Heap.lt_size hg
  have hne : l ≠ s.heap.objs.size := Nat.ne_of_lt hlt
  have hlL : l ≠ env.locals := (N _ hm).2.1
  refine wpAny_pyIter_tuple hl ?_
  have W := Walks.tuple (prog := prog) (w := w) hh s.heap.objs.size l hne vs.toArray
  rw [List.size_toArray] at W
  refine for_core [(l, tupO vs k)] J W List.mem_cons_self (fun b hb q => ?_) ?_ (next_is_new F) (fun p hp => Nat.ne_of_lt (Heap.lt_size (N p hp).1)) (fun i h st => by obtain ⟨o, e, _⟩ := st.1; exact ⟨o, e⟩)
    ⟨⟨_, Heap.get?_push_size _ rfl, rfl, rfl⟩, hl.at fun o e => Heap.get?_push_of_some _ e⟩ (F.push _) (fun p hp => ⟨Heap.get?_push_of_some _ (N p hp).1, (N p hp).2⟩) hj (fun i m nx h p hp => by rw [List.mem_singleton.mp hp]; exact hsrc i m nx h) ?_ done
  · rcases List.mem_cons.mp hb with e | hb
    · exact absurd e q
    · exact .inr ⟨_, by rw [List.mem_singleton.mp hb]; exact List.mem_singleton.mpr rfl⟩
  · intro hm'
    rcases List.mem_cons.mp hm' with e | hm'
    · exact absurd F.ns.lt (e ▸ Nat.lt_irrefl _)
    · exact hlL (List.mem_singleton.mp hm').symm
  · intro i v m₁ nx h tk oI hin hP hJ hoff F₁ N₁
    exact turn i v m₁ nx h tk _ oI (by simpa using hP) hJ (fun p hp => Heap.lt_size (N p hp).1) hoff F₁ N₁

theorem for_lstJ {l : Addr} {vs : List Value} {k : Nat} {m₀ : Str → Option Value} {news : Led} (J : Nat → (Str → Option Value) → Led → Prop)
    (hh : A.handled = none) (hm : (l, lstO vs k) ∈ news) (F : Fr h₀ env.locals s.heap m₀) (N : News h₀ env.locals s.heap news) (hj : J 0 m₀ news) (hsrc : ∀ i m nx, J i m nx → (l, lstO vs k) ∈ nx)
    (turn : ∀ i v m₁ nx h tk I oI, vs[i]? = some v → J i m₁ nx → (∀ p ∈ news, p.1 < I) → (∀ p ∈ nx, p.1 ≠ I) → Fr h₀ env.locals h (fun y => if y = x then some v else m₁ y) → News h₀ env.locals h ((I, oI) :: nx) →
      wpAny (model prog w) A (execs body env) (FPost h₀ env.locals I oI (J (i + 1)) { s with heap := h, toks := tk } Q) E { s with heap := h, toks := tk })
    (done : ∀ m₁ nx h tk, J vs.length m₁ nx → Fr h₀ env.locals h m₁ → News h₀ env.locals h nx → Q .next { s with heap := h, toks := tk }) :
    wpAny (model prog w) A (pyIter (.ref l)) (fun it s₂ => LoopAtV prog w A h₀ env x body Q E it s₂) E s := by
  have hg := (N _ hm).1
  have hl : s.heap.IsList l vs.toArray := ⟨_, hg, rfl, _, rfl⟩
  have hlt : l < s.heap.objs.size := Heap.lt_size hg
  have hne : l ≠ s.heap.objs.size := Nat.ne_of_lt hlt
  have hlL : l ≠ env.locals := (N _ hm).2.1
  refine wpAny_pyIter_list hl ?_
  have W := Walks.list (prog := prog) (w := w) hh s.heap.objs.size l hne vs.toArray
  rw [List.size_toArray] at W
  refine for_core [(l, lstO vs k)] J W List.mem_cons_self (fun b hb q => ?_) ?_ (next_is_new F) (fun p hp => Nat.ne_of_lt (Heap.lt_size (N p hp).1)) (fun i h st => by obtain ⟨o, e, _⟩ := st.1; exact ⟨o, e⟩)
    ⟨⟨_, Heap.get?_push_size _ rfl, rfl, rfl⟩, hl.at fun o e => Heap.get?_push_of_some _ e⟩ (F.push _) (fun p hp => ⟨Heap.get?_push_of_some _ (N p hp).1, (N p hp).2⟩) hj (fun i m nx h p hp => by rw [List.mem_singleton.mp hp]; exact hsrc i m nx h) ?_ done
  · rcases List.mem_cons.mp hb with e | hb
    · exact absurd e q
    · exact .inr ⟨_, by rw [List.mem_singleton.mp hb]; exact List.mem_singleton.mpr rfl⟩
  · intro hm'
    rcases List.mem_cons.mp hm' with e | hm'
    · exact absurd F.ns.lt (e ▸ Nat.lt_irrefl _)
    · exact hlL (List.mem_singleton.mp hm').symm
  · intro i v m₁ nx h tk oI hin hP hJ hoff F₁ N₁
    exact turn i v m₁ nx h tk _ oI (by simpa using hP) hJ (fun p hp => Heap.lt_size (N p hp).1) hoff F₁ N₁

theorem for_tup1 {l : Addr} {vs : List Value} {k : Nat} {m₀ : Str → Option Value} {news : Led} {y : Str} {a₀ : Int} {t₀ : Tok} (stored : List Str) (I : Nat → Int → Prop)
    (hh : A.handled = none) (hm : (l, tupO vs k) ∈ news) (F : Fr h₀ env.locals s.heap m₀) (N : News h₀ env.locals s.heap news) (hy : m₀ y = some (.int a₀ t₀)) (hyx : y ≠ x) (hi : I 0 a₀)
    (turn : ∀ i v a ta (u : Str → Option Value) h tk II oI, vs[i]? = some v → I i a → (∀ p ∈ news, p.1 < II) → Fr h₀ env.locals h (fun z => if z = x then some v else if z = y then some (.int a ta) else if stored.contains z then u z else m₀ z) → News h₀ env.locals h ((II, oI) :: news) →
      wpAny (model prog w) A (execs body env) (FPost h₀ env.locals II oI (fun m' nx => nx = news ∧ ∃ a' ta', m' y = some (.int a' ta') ∧ I (i + 1) a' ∧ ∀ z, z ≠ x → z ≠ y → stored.contains z = false → m' z = m₀ z) { s with heap := h, toks := tk } Q) E { s with heap := h, toks := tk })
    (done : ∀ a ta (u : Str → Option Value) h tk, I vs.length a → Fr h₀ env.locals h (fun z => if z = x then u z else if z = y then some (.int a ta) else if stored.contains z then u z else m₀ z) → News h₀ env.locals h news → Q .next { s with heap := h, toks := tk }) :
    wpAny (model prog w) A (pyIter (.ref l)) (fun it s₂ => LoopAtV prog w A h₀ env x body Q E it s₂) E s := by
  refine for_tupJ (fun i m nx => nx = news ∧ ∃ a ta, m y = some (.int a ta) ∧ I i a ∧ ∀ z, z ≠ x → z ≠ y → stored.contains z = false → m z = m₀ z) hh hm F N ⟨rfl, a₀, t₀, hy, hi, fun _ _ _ _ => rfl⟩ (fun i m nx h => by rw [h.1]; exact hm) ?_ ?_
  · rintro i v m₁ nx h tk II oI hv ⟨rfl, a, ta, ha, hI, hm₁⟩ hlt hne F₁ N₁
    have e : (fun z => if z = x then some v else m₁ z) = fun z => if z = x then some v else if z = y then some (.int a ta) else if stored.contains z then m₁ z else m₀ z := by
      funext z
      by_cases h1 : z = x
      · simp [h1]
      · simp only [if_neg h1]
        by_cases h2 : z = y
        · subst h2; simp [ha]
        · simp only [if_neg h2]
          cases h9 : stored.contains z with
          | true => simp
          | false => simp only [Bool.false_eq_true, if_false]; exact hm₁ z h1 h2 h9
    rw [e] at F₁
    exact turn i v a ta m₁ h tk II oI hv hI hlt F₁ N₁
  · rintro m₁ nx h tk ⟨rfl, a, ta, ha, hI, hm₁⟩ F₁ N₁
    have e : (fun z => if z = x then m₁ z else if z = y then some (.int a ta) else if stored.contains z then m₁ z else m₀ z) = m₁ := by
      funext z
      by_cases h1 : z = x
      · simp [h1]
      · simp only [if_neg h1]
        by_cases h2 : z = y
        · subst h2; simp [ha]
        · simp only [if_neg h2]
          cases h9 : stored.contains z with
          | true => simp
          | false => simp only [Bool.false_eq_true, if_false]; exact (hm₁ z h1 h2 h9).symm
    exact done a ta m₁ h tk hI (by rw [e]; exact F₁) N₁

/-- a for over a tuple, whose turns turn one list of ints -/
theorem for_tupL {l fl : Addr} {vs : List Value} {k : Nat} {m₀ : Str → Option Value} {rest : Led} {ws₀ : List Value} {n₀ : Nat} {ns₀ : List Int} (stored : List Str) (I : Nat → List Int → Prop)
    (hh : A.handled = none) (hm : (l, tupO vs k) ∈ rest) (F : Fr h₀ env.locals s.heap m₀) (N : News h₀ env.locals s.heap ((fl, lstO ws₀ n₀) :: rest)) (hw : IntsAre ws₀ ns₀) (hi : I 0 ns₀)
    (turn : ∀ i v ws n ns (u : Str → Option Value) h tk II oI, vs[i]? = some v → IntsAre ws ns → I i ns → (∀ p ∈ (fl, lstO ws₀ n₀) :: rest, p.1 < II) → Fr h₀ env.locals h (fun z => if z = x then some v else if stored.contains z then u z else m₀ z) → News h₀ env.locals h ((II, oI) :: (fl, lstO ws n) :: rest) →
      wpAny (model prog w) A (execs body env) (FPost h₀ env.locals II oI (fun m' nx => ∃ ws' n' ns', nx = (fl, lstO ws' n') :: rest ∧ IntsAre ws' ns' ∧ I (i + 1) ns' ∧ ∀ z, z ≠ x → stored.contains z = false → m' z = m₀ z) { s with heap := h, toks := tk } Q) E { s with heap := h, toks := tk })
    (done : ∀ ws n ns (u : Str → Option Value) h tk, IntsAre ws ns → I vs.length ns → Fr h₀ env.locals h (fun z => if z = x then u z else if stored.contains z then u z else m₀ z) → News h₀ env.locals h ((fl, lstO ws n) :: rest) → Q .next { s with heap := h, toks := tk }) :
    wpAny (model prog w) A (pyIter (.ref l)) (fun it s₂ => LoopAtV prog w A h₀ env x body Q E it s₂) E s := by
  refine for_tupJ (fun i m nx => ∃ ws n ns, nx = (fl, lstO ws n) :: rest ∧ IntsAre ws ns ∧ I i ns ∧ ∀ z, z ≠ x → stored.contains z = false → m z = m₀ z) hh (List.mem_cons_of_mem _ hm) F N ⟨ws₀, n₀, ns₀, rfl, hw, hi, fun _ _ _ => rfl⟩ (fun i m nx h => by obtain ⟨_, _, _, rfl, _⟩ := h; exact List.mem_cons_of_mem _ hm) ?_ ?_
  · rintro i v m₁ nx h tk II oI hv ⟨ws, n, ns, rfl, hws, hI, hm₁⟩ hlt hne F₁ N₁
    have e : (fun z => if z = x then some v else m₁ z) = fun z => if z = x then some v else if stored.contains z then m₁ z else m₀ z := by
      funext z
      by_cases h1 : z = x
      · simp [h1]
      · simp only [if_neg h1]
        cases h9 : stored.contains z with
        | true => simp
        | false => simp only [Bool.false_eq_true, if_false]; exact hm₁ z h1 h9
    rw [e] at F₁
    exact turn i v ws n ns m₁ h tk II oI hv hws hI hlt F₁ N₁
  · rintro m₁ nx h tk ⟨ws, n, ns, rfl, hws, hI, hm₁⟩ F₁ N₁
    have e : (fun z => if z = x then m₁ z else if stored.contains z then m₁ z else m₀ z) = m₁ := by
      funext z
      by_cases h1 : z = x
      · simp [h1]
      · simp only [if_neg h1]
        cases h9 : stored.contains z with
        | true => simp
        | false => simp only [Bool.false_eq_true, if_false]; exact (hm₁ z h1 h9).symm
    exact done ws n ns m₁ h tk hws hI (by rw [e]; exact F₁) N₁
end
local macro_rules | `(tactic| k_mem) => `(tactic| k_extra "k_mem")
theorem row08_1 : True := by
  k_with "k_mem" => (first | exact List.mem_cons_self | (refine List.mem_cons_of_mem _ ?_; k_mem))
  exact trivial
theorem row08_2 : True := by
  k_with "W:FPost" => ((dsimp only [FPost]))
  exact trivial
theorem row08_3 : True := by
  k_with "W:exec For Name Name cons nil" => ((k_here; k_extra "my for"; (rename Fr _ _ _ _ => x1ᵣ); (with_unfolding_all refine' For_invVF x1ᵣ ?k1 ?k2 ?_; (case k1 => exact rfl); (case k2 => exact rfl); k_whole)))
  exact trivial
theorem row08_4 : True := by
  k_with "W:exec For Name Subscript cons nil" => ((k_here; k_extra "my for"; (rename Fr _ _ _ _ => x1ᵣ); (with_unfolding_all refine' For_invVF x1ᵣ ?k1 ?k2 ?_; (case k1 => exact rfl); (case k2 => exact rfl); k_whole)))
  exact trivial
theorem row08_5 : True := by
  k_with "W:pyIter ref" => (((with_reducible show wpAny _ _ (pyIter (Value.ref _)) (fun x1ᵣ x2ᵣ => LoopAtV _ _ _ _ _ _ _ _ _ x1ᵣ x2ᵣ) _ _); k_here; k_extra "my iter"))
  exact trivial

/-! the facts over a greater ledger -/
section
variable {w : World} {news nx : Led}
theorem ClsAt.mono {x : Addr} {c : List (Int × Int)} (H : ClsAt w news x c) (s : ∀ p ∈ news, p ∈ nx) : ClsAt w nx x c :=
  let ⟨a, b, c, d, e, f, h1, h2, h3, h4, h5, r⟩ := H.ex; ⟨a, b, c, d, e, f, s _ h1, s _ h2, h3, h4, s _ h5, r⟩
theorem CovAt.mono {x : Addr} {gs : List Int} (H : CovAt news x gs) (s : ∀ p ∈ news, p ∈ nx) : CovAt nx x gs :=
  let ⟨a, b, c, d, e, f, h1, h2, h3, h4, h5, h6, r⟩ := H.ex; ⟨⟨a, b, c, d, e, f, s _ h1, s _ h2, h3, h4, h5, s _ h6, r⟩, H.len, H.up⟩
theorem GdefM.mono {x : Addr} {cs as : List (Int × Int)} {ms : List Int} (H : GdefM w news x cs as ms) (s : ∀ p ∈ news, p ∈ nx) : GdefM w nx x cs as ms :=
  let ⟨a, b, c, d, e, f, g, h, h1, h2, h3, h4, h5, h6, h7, h8, h9, h10, h11, h12⟩ := H.ex; ⟨⟨a, b, c, d, e, f, g, h, s _ h1, s _ h2, h3, h4, h5, h6, h7, h8, h9.mono s, h10.mono s, s _ h11, h12.mono s⟩⟩
theorem LookAt.mono {x : Addr} {f q : Int} (H : LookAt news x f q) (s : ∀ p ∈ news, p ∈ nx) : LookAt nx x f q :=
  let ⟨a, b, c, d, e, h1, h2, r⟩ := H.ex; ⟨⟨a, b, c, d, e, s _ h1, s _ h2, r⟩⟩
theorem InfoAt.mono {x : Addr} {r : Rw} (H : InfoAt news x r) (s : ∀ p ∈ news, p ∈ nx) : InfoAt nx x r :=
  let ⟨a, b, c, d, e, f, h1, h2, r⟩ := H.ex; ⟨⟨a, b, c, d, e, f, s _ h1, s _ h2, r⟩⟩
theorem RowIn.mono {vs : List Value} {R : List Rw} (H : RowIn news vs R) (s : ∀ p ∈ news, p ∈ nx) : RowIn nx vs R :=
  ⟨H.len, fun i r e => let ⟨a, h1, h2⟩ := H.it i r e; ⟨a, h1, h2.mono s⟩, H.few⟩
theorem SceneAt.mono {x : Addr} {R : List Rw} {mask flag q : Int} {cs as : List (Int × Int)} {ms : List Int} (H : SceneAt w news x R mask flag q cs as ms) (s : ∀ p ∈ news, p ∈ nx) : SceneAt w nx x R mask flag q cs as ms :=
  let ⟨a, b, c, d, e, f, g, h, i, j, k, l, m, h1, h2, h3, h4, h5, h6, h7, h8, h9, h10, h11, h12, h13⟩ := H.ex
  ⟨⟨a, b, c, d, e, f, g, h, i, j, k, l, m, s _ h1, s _ h2, h3, h4, h5, h6, s _ h7, s _ h8, h9, s _ h10, h11.mono s, h12.mono s, h13.mono s⟩⟩
theorem TestAt.mono {t : Addr} {T : Tst} (H : TestAt w news t T) (s : ∀ p ∈ news, p ∈ nx) : TestAt w nx t T := by
  cases H with
  | gly h => exact .gly (s _ h)
  | cls h H => exact .cls (s _ h) (H.mono s)
  | cov h H => exact .cov (s _ h) (H.mono s)
end
/-- the tests of a tuple -/
structure TestsIn (w : World) (news : Led) (vs : List Value) (Ts : List Tst) : Prop where
  len : vs.length = Ts.length
  it : ∀ (i : Nat) (T : Tst), Ts[i]? = some T → ∃ a, vs[i]? = some (Value.ref a) ∧ TestAt w news a T
  few : Ts.length ≤ 8
theorem TestsIn.mono {w : World} {news nx : Led} {vs : List Value} {Ts : List Tst} (H : TestsIn w news vs Ts) (s : ∀ p ∈ news, p ∈ nx) : TestsIn w nx vs Ts :=
  ⟨H.len, fun i r e => let ⟨a, h1, h2⟩ := H.it i r e; ⟨a, h1, h2.mono s⟩, H.few⟩
theorem TestsIn.get {w : World} {news : Led} {vs : List Value} {Ts : List Tst} (H : TestsIn w news vs Ts) {i : Nat} {v : Value} (hv : vs[i]? = some v) : ∃ T a, Ts[i]? = some T ∧ v = .ref a ∧ TestAt w news a T := by
  have hl : i < Ts.length := by rw [← H.len]; exact (List.getElem?_eq_some_iff.mp hv).1
  obtain ⟨a, ha, h⟩ := H.it i Ts[i] (List.getElem?_eq_getElem hl)
  rw [hv] at ha
  exact ⟨_, a, List.getElem?_eq_getElem hl, Option.some.inj ha, h⟩

theorem calm09 : True := by
  w_top off
  exact trivial
noncomputable def lastL (f : Tst → Int → Int) : List Tst → Int → Int
  | [], h => h
  | T :: r, h => if f T h < 0 then -1 else lastL f r (f T h)
/-- one step of last_at -/
noncomputable def stF (R : List Rw) (ig : Int → Bool) (mask step : Int) (T : Tst) (h : Int) : Int := scanS R.length step (fdC R ig T kAr mask false) (h + step)
theorem lastL_go {f : Tst → Int → Int} {Ts : List Tst} {i : Nat} {T : Tst} {h k : Int} (e : Ts[i]? = some T) (hI : lastL f (Ts.drop i) h = k) (hf : ¬ f T h < 0) : lastL f (Ts.drop (i + 1)) (f T h) = k := by
  obtain ⟨hl, e'⟩ := List.getElem?_eq_some_iff.mp e
  rw [List.drop_eq_getElem_cons hl, e', lastL, if_neg hf] at hI
  exact hI
theorem lastL_out {f : Tst → Int → Int} {Ts : List Tst} {i : Nat} {T : Tst} {h k : Int} (e : Ts[i]? = some T) (hI : lastL f (Ts.drop i) h = k) (hf : f T h < 0) : -1 = k := by
  obtain ⟨hl, e'⟩ := List.getElem?_eq_some_iff.mp e
  rw [List.drop_eq_getElem_cons hl, e', lastL, if_pos hf] at hI
  exact hI
theorem lastL_end {f : Tst → Int → Int} {Ts : List Tst} {n : Nat} {h k : Int} (hn : n = Ts.length) (hI : lastL f (Ts.drop n) h = k) : h = k := by
  rw [hn, List.drop_length] at hI
  exact hI

theorem row09_1 : True := by
  k_with "W:call ref" => ((k_here; (with_reducible show wpAny _ _ (call (Value.ref 141) _) _ _ _); k_dflt (refine' Con.useI (found_con (SceneAt.mono ?cH ?s1) ?c1 (TestAt.mono ?c2 ?s2) ?c3 ?c4) ?k1 ?k2 ?k3 ?k4 ?k5 ?kK ?kd ?ku ?_; tb_start; (case cH => k_asm); (case c1 => first | k_asm | decide); (case c2 => k_asm); (case c3 => k_is); (case c4 => first | exact .cons _ _ (.cons _ _ (.cons _ _ .nil)) | exact .cons _ _ (.cons _ _ .nil)); (case s1 => ktd_sub); (case s2 => ktd_sub); k_whole); intro x1ᵣ x2ᵣ x3ᵣ x4ᵣ x5ᵣ; (try k_sweep); (try k_fold)))
  exact trivial

theorem last_con {w : World} {mean : ExcName → Option Value} {mg mb : Str → Option Value} {news : Led} {x tt : Addr} {R : List Rw} {mask flag q : Int} {cs as : List (Int × Int)} {ms : List Int} {k step : Int} {tk ts : Tok} {vt : List Value} {kt : Nat} {Ts : List Tst}
    (H : SceneAt w news x R mask flag q cs as ms) (hst : step = 1 ∨ step = -1) (htt : (tt, tupO vt kt) ∈ news) (HT : TestsIn w news vt Ts) :
    Con w mean mg mb 14 112 155 [.ref x, .int k tk, .int step ts, .ref tt] news (RI news (lastL (stF R (ignM cs as ms flag q) mask step) Ts k)) := by
  k_with "my for" => skip
  k_with "my iter" => ((rename Fr _ _ _ _ => lF'); (rename News _ _ _ _ => lN'); (with_unfolding_all refine' for_tup1 (y := Str.ofString "here") [] (fun i h => lastL (stF R (ignM cs as ms flag q) mask step) (Ts.drop i) h = lastL (stF R (ignM cs as ms flag q) mask step) Ts k) (by rfl) htt lF' lN' (by rfl) (by decide) (by rfl) (fun i' v' a' ta' u' h' tk' II oI hv' hI' hlt' F' N' => ?turn) (fun a' ta' u' h' tk' hI' F' N' => ?done)); (all_goals (try clear lF' lN')); (case' turn => (obtain ⟨T9, a9, eT9, e9, hT9⟩ := TestsIn.get HT hv'; subst e9)))
  unfold Con; intro dp un gd cn csc a0 ccd cl outer A₀ base h₀ L m s Q E B F X N Tp hk hdp hun hret
  ktn_open
  all_goals first
    | exact FEnd.intro _ (by k_asm) (by k_asm) (fun _ h => h) (fun p hp => Nat.ne_of_lt (by first | exact hlt' p hp | (rename (∀ p ∈ news, p.1 < _) => hl9; exact hl9 p hp))) ⟨rfl, _, _, by with_unfolding_all rfl, lastL_go (by assumption) (by assumption) (by assumption), by kwd_same1⟩
    | exact hret _ _ _ _ (by k_asm) (by k_asm) ⟨ktn_int (lastL_end HT.len (by assumption)), by ktd_sub⟩
    | exact hret _ _ _ _ (by k_asm) (by k_asm) ⟨ktn_int (lastL_out (by assumption) (by assumption) (by assumption)), by ktd_sub⟩

theorem calm10 : True := by
  w_top off
  exact trivial
theorem row10_1 : True := by
  k_with "W:call ref" => ((k_here; (with_reducible show wpAny _ _ (call (Value.ref 155) _) _ _ _); k_dflt (refine' Con.useI (last_con ?cH ?c1 ?c3 ?c2) ?k1 ?k2 ?k3 ?k4 ?k5 ?kK ?kd ?ku ?_; tb_start; (case cH => k_asm); (case c1 => first | k_asm | decide); (case c2 => k_asm); (case c3 => k_mem); k_whole); intro x1ᵣ x2ᵣ x3ᵣ x4ᵣ x5ᵣ; (try k_sweep); (try k_fold)))
  exact trivial

theorem ahead_con {w : World} {mean : ExcName → Option Value} {mg mb : Str → Option Value} {news : Led} {x tt : Addr} {R : List Rw} {mask flag q : Int} {cs as : List (Int × Int)} {ms : List Int} {k : Int} {tk : Tok} {vt : List Value} {kt : Nat} {Ts : List Tst}
    (H : SceneAt w news x R mask flag q cs as ms) (htt : (tt, tupO vt kt) ∈ news) (HT : TestsIn w news vt Ts) :
    Con w mean mg mb 16 128 162 [.ref x, .int k tk, .ref tt] news (RI news (lastL (stF R (ignM cs as ms flag q) mask 1) Ts k)) := by
  unfold Con; intro dp un gd cn csc a0 ccd cl outer A₀ base h₀ L m s Q E B F X N Tp hk hdp hun hret
  ktn_open
  all_goals first | exact hret _ _ _ _ (by k_asm) (by k_asm) ⟨⟨_, rfl⟩, by ktd_sub⟩
theorem back_con {w : World} {mean : ExcName → Option Value} {mg mb : Str → Option Value} {news : Led} {x tt : Addr} {R : List Rw} {mask flag q : Int} {cs as : List (Int × Int)} {ms : List Int} {k : Int} {tk : Tok} {vt : List Value} {kt : Nat} {Ts : List Tst}
    (H : SceneAt w news x R mask flag q cs as ms) (htt : (tt, tupO vt kt) ∈ news) (HT : TestsIn w news vt Ts) :
    Con w mean mg mb 16 128 169 [.ref x, .int k tk, .ref tt] news (RI news (lastL (stF R (ignM cs as ms flag q) mask (-1)) Ts k)) := by
  unfold Con; intro dp un gd cn csc a0 ccd cl outer A₀ base h₀ L m s Q E B F X N Tp hk hdp hun hret
  ktn_open
  all_goals first | exact hret _ _ _ _ (by k_asm) (by k_asm) ⟨⟨_, rfl⟩, by ktd_sub⟩

theorem item_tests {prog : Program} {w w' : World} {A : Around} {E : Value → Shared → Prop} {s : Shared} {h₀ : Heap} {L : Addr} {news : Led} {value slice : PySem.Expr} {l : Addr} {vs : List Value} {Ts : List Tst} {n : Nat} {k : Int} {u : Tok} {Q : Value → Shared → Prop} (N : News h₀ L s.heap news) (hm : (l, tupO vs n) ∈ news) (hR : TestsIn w' news vs Ts)
    (h0 : 0 ≤ k) (h1 : k < Ts.length) (h : ∀ a T, Ts[k.toNat]? = some T → TestAt w' news a T → Q (.ref a) s)
    (hs : subscripted slice false (.ref l) (.int k u) = operate [.ref l, .int k u] (getItem (.ref l) (.int k u)) := by with_unfolding_all rfl) :
    wpAny (model prog w) A (subscriptTail value slice (.ref l) (.int k u)) Q E s := by
  have hf := hR.few
  have e : Ts[k.toNat]? = some (Ts[k.toNat]'(by omega)) := List.getElem?_eq_getElem (by omega)
  obtain ⟨a, ha, hI⟩ := hR.it _ _ e
  have hj : seqIndex? k vs.length = some k.toNat := by
    rw [hR.len]
    exact StrLaws.seqIndex_nonneg h0 h1
  exact item_tupleT (News.isTup N hm) (by omega) (by omega) hj ha (h a _ e hI) hs
theorem row10_2 : True := by
  k_with "W:subscriptTail" => ((k_here; (with_reducible show wpAny _ _ (subscriptTail _ _ (Value.ref _) (Value.int _ _)) _ _ _); k_dflt (refine' item_tests ?k1 ?k2 ?k3 ?k5 ?k6 ?_; (case k1 => k_asm); (case k2 => k_mem); (case k3 => k_asm); (case k5 => first | k_asm | omega); (case k6 => first | k_asm | omega); k_whole); intro x1ᵣ x2ᵣ x3ᵣ x4ᵣ))
  exact trivial

theorem item_last {prog : Program} {w : World} {A : Around} {E : Value → Shared → Prop} {s : Shared} {h₀ : Heap} {L : Addr} {news : Led} {value slice : PySem.Expr} {l : Addr} {vs : List Value} {ns : List Int} {n : Nat} {u : Tok} {Q : Value → Shared → Prop} (N : News h₀ L s.heap news) (hm : (l, lstO vs n) ∈ news) (hi : IntsAre vs ns)
    (h0 : 0 < ns.length) (h : ∀ t, Q (.int (ns.getLastD 0) t) s)
    (hs : subscripted slice false (.ref l) (.int (-1) u) = operate [.ref l, .int (-1) u] (getItem (.ref l) (.int (-1) u)) := by with_unfolding_all rfl) (hg : ∀ r, letTemporaryGo value (.ref l) r = pure () := by intro _; with_unfolding_all rfl) :
    wpAny (model prog w) A (subscriptTail value slice (.ref l) (.int (-1) u)) Q E s := by
  have hl := hi.length
  have e : ns[ns.length - 1]? = some (ns.getLastD 0) := by
    rw [List.getLastD_eq_getLast?, List.getLast?_eq_getElem?, List.getElem?_eq_getElem (by omega)]
    rfl
  obtain ⟨t, ht⟩ := hi.get _ _ e
  refine kim_back N hm rfl rfl (by decide) (by omega) (by decide) (x := .int (ns.getLastD 0) t) ?_ (h t) hs hg
  rw [show ((-1 : Int) + (vs.length : Int)).toNat = ns.length - 1 by omega]
  exact ht
theorem slice_tests {prog : Program} {w : World} {A : Around} {E : Value → Shared → Prop} {s : Shared} {h₀ : Heap} {L : Addr} {m : Str → Option Value} {news : Led} {value slice : PySem.Expr} {t : Addr} {vs : List Value} {n k : Nat} {u : Tok} {Q : Value → Shared → Prop}
    (F : Fr h₀ L s.heap m) (N : News h₀ L s.heap news) (hm : (t, tupO vs n) ∈ news) (hl : vs.length = k) (h1 : 0 < k) (h8 : k ≤ 8)
    (h : ∀ t' h', Fr h₀ L h' m → News h₀ L h' ((t', tupO (vs.drop 1) 0) :: news) → (∀ p ∈ news, p.1 < t') → Q (.ref t') { s with heap := h' })
    (hs : subscripted slice false (.ref t) (.ref s.heap.objs.size) = operate [.ref s.heap.objs.size, .ref t] (getItem (.ref t) (.ref s.heap.objs.size)) := by with_unfolding_all rfl)
    (hg : ∀ r, letTemporaryGo value (.ref t) r = pure () := by intro _; with_unfolding_all rfl) :
    wpAny (model prog w) A (subscriptTail value slice (.ref t) (.ref s.heap.objs.size)) Q E { s with heap := s.heap.push { cls := .type "slice", data := .fields #[.int ((1 : Nat) : Int) u, .none, .none] } } := by
  refine slice_tuple_from F N (News.isTup N hm) (Nat.le_refl _) (by rw [List.size_toArray]; omega) (fun h' F' N' => h _ h' F' ?_ fun p hp => Nat.lt_succ_of_lt (Heap.lt_size (N p hp).1)) hs hg (by rw [List.size_toArray, sizeLine_eq]; omega)
  simpa using N'
theorem row10_3 : True := by
  k_with "W:subscriptTail Name UnaryOp ref int" => ((k_here; (with_reducible show wpAny _ _ (subscriptTail _ _ (Value.ref _) (Value.int _ _)) _ _ _); k_dflt (refine' item_last ?k1 ?k2 ?k3 ?k5 ?_; (case k1 => k_asm); (case k2 => k_mem); (case k3 => k_asm); (case k5 => first | k_asm | omega); k_whole); intro x1ᵣ))
  exact trivial
theorem ints_snoc {ws : List Value} {ns : List Int} (h : IntsAre ws ns) (x : Int) (t : Tok) : IntsAre (ws ++ [.int x t]) (ns ++ [x]) := by
  induction h with
  | nil => exact .cons _ _ .nil
  | cons y u _ ih => exact .cons _ _ ih
theorem append_L {prog : Program} {w : World} {A : Around} {E : Value → Shared → Prop} {s : Shared} {h₀ : Heap} {L D : Addr} {m : Str → Option Value} {news news' : Led} {ws : List Value} {ns : List Int} {n : Nat} {x : Int} {t : Tok} {Q : Value → Shared → Prop} (F : Fr h₀ L s.heap m) (N : News h₀ L s.heap news)
    (U : Upd D (lstO ws n) (lstO (ws ++ [.int x t]) (n + 1)) news news') (hw : IntsAre ws ns) (hz : ns.length ≤ 100)
    (h : ∀ h', Fr h₀ L h' m → News h₀ L h' news' → IntsAre (ws ++ [.int x t]) (ns ++ [x]) → Q .none { s with heap := h' }) : wpAny (model prog w) A (call (.builtin "list.append") [.ref D, .int x t]) Q E s := by
  refine append_K (its := ws.toArray) (n := n) F N (news' := news') ?_ (fun h' F' N' => h h' F' N' (ints_snoc hw x t)) (by rw [List.size_toArray, hw.length, sizeLine_eq]; omega)
  rw [List.push_toArray]
  exact U
theorem row10_4 : True := by
  k_with "W:call builtin:list.append" => ((k_here; (with_reducible show wpAny _ _ (call (Value.builtin _) [Value.ref _, Value.int _ _]) _ _ _); k_dflt (refine' append_L ?k1 ?k2 ?k3 ?k4 ?k5 ?_; (case k1 => k_asm); (case k2 => k_asm); (case k3 => k_upd); (case k4 => k_asm); (case k5 => omega); k_whole); intro x1ᵣ x2ᵣ x3ᵣ x4ᵣ; (try k_sweep)))
  exact trivial
theorem row10_5 : True := by
  k_with "W:subscriptTail Name Slice ref ref" => ((k_here; (with_unfolding_all refine' slice_tests (s := ⟨_, _, _, _, _⟩) (u := _) ?k1 ?k2 ?k3 ?k4 ?k5 ?k6 ?_; (case k1 => k_asm); (case k2 => k_asm); (case k3 => k_mem); (case k4 => exact TestsIn.len (by assumption)); (case k5 => assumption); (case k6 => exact TestsIn.few (by assumption)); k_whole); intro x1ᵣ x2ᵣ x3ᵣ x4ᵣ x5ᵣ; (try k_lt x5ᵣ); (try k_sweep)))
  exact trivial

theorem TestsIn.get1 {w : World} {news : Led} {vs : List Value} {Ts : List Tst} (H : TestsIn w news vs Ts) {i : Nat} {v : Value} (hv : (vs.drop 1)[i]? = some v) : ∃ T a, (Ts.drop 1)[i]? = some T ∧ v = .ref a ∧ TestAt w news a T := by
  rw [List.getElem?_drop] at hv
  obtain ⟨T, a, h1, h2, h3⟩ := H.get hv
  exact ⟨T, a, by rw [List.getElem?_drop]; exact h1, h2, h3⟩
theorem news_swap {h₀ h : Heap} {L : Addr} {a b : Addr × Obj} {r : Led} (N : News h₀ L h (a :: b :: r)) : News h₀ L h (b :: a :: r) := cb_drop N fun p hp => by
  rcases List.mem_cons.mp hp with rfl | hp
  · exact List.mem_cons_of_mem _ List.mem_cons_self
  · rcases List.mem_cons.mp hp with rfl | hp
    · exact List.mem_cons_self
    · exact List.mem_cons_of_mem _ (List.mem_cons_of_mem _ hp)
/-- input_at's own: the places found, behind acc -/
noncomputable def inL (f : Tst → Int → Int) : List Tst → List Int → Option (List Int)
  | [], acc => some acc
  | T :: r, acc => if f T (acc.getLastD 0) < 0 then none else inL f r (acc ++ [f T (acc.getLastD 0)])
noncomputable def inF (R : List Rw) (ig : Int → Bool) (mask : Int) (T : Tst) (h : Int) : Int := scanS R.length 1 (fdC R ig T kIn mask true) (h + 1)

theorem inL_go {f : Tst → Int → Int} {Ts : List Tst} {i : Nat} {T : Tst} {ns : List Int} {k : Option (List Int)} (e : Ts[i]? = some T) (hI : inL f (Ts.drop i) ns = k) (hf : ¬ f T (ns.getLastD 0) < 0) : inL f (Ts.drop (i + 1)) (ns ++ [f T (ns.getLastD 0)]) = k := by
  obtain ⟨hl, e'⟩ := List.getElem?_eq_some_iff.mp e
  rw [List.drop_eq_getElem_cons hl, e', inL, if_neg hf] at hI
  exact hI
theorem inL_out {f : Tst → Int → Int} {Ts : List Tst} {i : Nat} {T : Tst} {ns : List Int} {k : Option (List Int)} (e : Ts[i]? = some T) (hI : inL f (Ts.drop i) ns = k) (hf : f T (ns.getLastD 0) < 0) : k = none := by
  obtain ⟨hl, e'⟩ := List.getElem?_eq_some_iff.mp e
  rw [List.drop_eq_getElem_cons hl, e', inL, if_pos hf] at hI
  exact hI.symm
theorem inL_end {f : Tst → Int → Int} {Ts : List Tst} {n : Nat} {ns : List Int} {k : Option (List Int)} (hn : n = Ts.length) (hI : inL f (Ts.drop n) ns = k) : k = some ns := by
  rw [hn, List.drop_length] at hI
  exact hI.symm
/-- what input_at gives -/
noncomputable def inM (R : List Rw) (ig : Int → Bool) (mask : Int) (Ts : List Tst) (k : Int) : Option (List Int) :=
  match Ts with
  | [] => none
  | T :: r => if fitM T (R.getD k.toNat rw0).g = true then inL (inF R ig mask) r [k] else none
theorem inM_fit {R : List Rw} {ig : Int → Bool} {mask : Int} {Ts : List Tst} {k : Int} {T : Tst} {o : Option (List Int)} (e : Ts[0]? = some T) (hf : fitM T (R.getD k.toNat rw0).g = true) (ho : inL (inF R ig mask) (Ts.drop 1) [k] = o) : inM R ig mask Ts k = o := by
  cases Ts with
  | nil => cases e
  | cons T' r =>
    cases e
    exact (if_pos hf).trans ho
theorem inM_no {R : List Rw} {ig : Int → Bool} {mask : Int} {Ts : List Tst} {k : Int} {T : Tst} (e : Ts[0]? = some T) (hf : fitM T (R.getD k.toNat rw0).g = false) : inM R ig mask Ts k = none := by
  cases Ts with
  | nil => cases e
  | cons T' r =>
    cases e
    exact if_neg (by rw [hf]; exact Bool.false_ne_true)
/-- None, or a new list of ints -/
noncomputable def RL (news : Led) (o : Option (List Int)) (r : Value) (n : Led) : Prop :=
  (∀ p ∈ news, p ∈ n) ∧ match o with
  | none => r = .none
  | some ns => ∃ l ws k, r = .ref l ∧ (l, lstO ws k) ∈ n ∧ IntsAre ws ns
theorem RL.none {news n : Led} {o : Option (List Int)} (h : o = .none) (s : ∀ p ∈ news, p ∈ n) : RL news o .none n := by subst h; exact ⟨s, rfl⟩
theorem RL.some {news n : Led} {o : Option (List Int)} {ns : List Int} {l : Addr} {ws : List Value} {k : Nat} (h : o = .some ns) (s : ∀ p ∈ news, p ∈ n) (hm : (l, lstO ws k) ∈ n) (hi : IntsAre ws ns) : RL news o (.ref l) n := by subst h; exact ⟨s, l, ws, k, rfl, hm, hi⟩
theorem drop_len {w : World} {news : Led} {vs : List Value} {Ts : List Tst} (H : TestsIn w news vs Ts) : (vs.drop 1).length = (Ts.drop 1).length := by rw [List.length_drop, List.length_drop, H.len]
theorem allLt_cons {d : Addr} {p : Addr × Obj} {r : Led} (h : @LT.lt Nat _ p.1 d) (h2 : AllLt d r) : AllLt d (p :: r) := ⟨h, h2⟩

theorem input_con {w : World} {mean : ExcName → Option Value} {mg mb : Str → Option Value} {news : Led} {x tt : Addr} {R : List Rw} {mask flag q : Int} {cs as : List (Int × Int)} {ms : List Int} {k : Int} {tk : Tok} {vt : List Value} {kt : Nat} {Ts : List Tst}
    (H : SceneAt w news x R mask flag q cs as ms) (htt : (tt, tupO vt kt) ∈ news) (HT : TestsIn w news vt Ts) (h0 : 0 ≤ k) (h1 : k < R.length) (hne : 0 < Ts.length) :
    Con w mean mg mb 14 112 148 [.ref x, .int k tk, .ref tt] news (RL news (inM R (ignM cs as ms flag q) mask Ts k)) := by
  k_with "my for" => skip
  k_with "my iter" => ((rename Fr _ _ _ _ => lF'); (rename News _ _ _ _ => lN'); (with_unfolding_all refine' for_tupL [Str.ofString "here"] (fun i ns => ns.length = i + 1 ∧ inL (inF R (ignM cs as ms flag q) mask) ((Ts.drop 1).drop i) ns = inL (inF R (ignM cs as ms flag q) mask) (Ts.drop 1) [k]) (by rfl) ?hm lF' (news_swap lN') (.cons _ _ .nil) ⟨rfl, (by rfl)⟩ (fun i' v' ws' n' ns' u' h' tk' II oI hv' hw' hI' hlt' F' N' => ?turn) (fun ws' n' ns' u' h' tk' hw' hI' F' N' => ?done)); (case hm => exact List.mem_cons_self); (all_goals (try clear lF' lN')); (case' turn => (obtain ⟨T8, a8, eT8, e8, hT8⟩ := TestsIn.get1 HT hv'; subst e8; replace hlt' := allLt_of hlt'; simp only [AllLt] at hlt'; obtain ⟨hl1, hl2⟩ := hlt'; obtain ⟨hI1, hI2⟩ := hI'; have hi8 := TestsIn.few HT; have hi9 := (List.getElem?_eq_some_iff.mp eT8).1; rw [List.length_drop] at hi9)))
  obtain ⟨dx, es, n, bf, bd, be, bn, l, vs, ln, gd, lk, tm, i1, i2, i3, i4, i5, i6, i7, i8, i9, i10, i11, i12, i13⟩ := H.ex
  unfold Con; intro dp un gd cn csc a0 ccd cl outer A₀ base h₀ L m s Q E B F X N Tp hk hdp hun hret
  ktn_open
  all_goals first
    | exact hret _ _ _ _ (by k_asm) (by k_asm) (RL.none (inM_no (by assumption) (by assumption)) (by ktd_sub))
    | exact hret _ _ _ _ (by k_asm) (by k_asm) (RL.none (inM_fit (by assumption) (by assumption) (inL_out (by assumption) (by assumption) (by assumption))) (by ktd_sub))
    | exact hret _ _ _ _ (by k_asm) (by k_asm) (RL.some (inM_fit (by assumption) (by assumption) (inL_end (drop_len HT) (And.right (by assumption)))) (by ktd_sub) (by k_mem) (by assumption))
    | exact FEnd.intro _ (by k_asm) (by k_asm) (fun _ h => h) (fun p hp => Nat.ne_of_lt (tb_ltOf (allLt_cons (by assumption) (by assumption)) p hp)) ⟨_, _, _, rfl, by assumption, ⟨by rw [List.length_append]; exact congrArg (· + 1) (by assumption), inL_go (by assumption) (by assumption) (by assumption)⟩, by kwd_same0⟩
    | exact FEnd.intro _ (by k_asm) (by k_asm) (fun _ h => h) (fun p hp => Nat.ne_of_lt (tb_ltOf (allLt_cons (by assumption) (by assumption)) p hp)) ⟨_, _, _, rfl, by assumption, ⟨by rw [List.length_append]; exact congrArg (· + 1) (by assumption), inL_go (by assumption) (by assumption) (by assumption)⟩, by kwd_same0⟩

theorem calm11 : True := by
  w_top off
  exact trivial
/-- the same, of a def with cells -/
local macro_rules | `(tactic| tbn_conj) => `(tactic| k_extra "tbn_conj")
theorem row11_1 : True := by
  k_with "tbn_conj" => ((refine wpAny_call ?_; k_dflt (refine' code_defC ?k1 ?k2 ?k3 ?k4 ?k5 ?kA ?kF ?kK ?k6 ?k7 ?k8 ?k9 ?kB ?kD ?_ ?c2 ?c3 ?c4; (case kA => exact rfl); (case kF => exact rfl); (case kK => assumption); (case k1 => k_asm); (case k2 => k_asm); (case k3 => k_asm); (case k4 => k_asm); (case k5 => k_asm); (case k6 => k_is); (case k7 => k_is); (case k8 => ktr_room); (case k9 => exact BindsTo.of_eq rfl); (case kB => exact rfl); (case kD => decide +kernel); (case c2 => exact rfl); (case c3 => exact rfl); (case c4 => exact rfl); k_whole; intro x1ᵣ x2ᵣ x3ᵣ x4ᵣ x5ᵣ x6ᵣ x7ᵣ x8ᵣ x9ᵣ x10ᵣ x11ᵣ x12ᵣ x13ᵣ; (try k_lt x13ᵣ); k_cells x9ᵣ; (try simp only [List.cons_append, List.nil_append] at x8ᵣ); (try dsimp only); (try k_fold)); k_steps))
  exact trivial

/-- the turns of a comprehension by what holds between them -/
theorem comp_ind {prog : Program} {w : World} {A : Around} {h₀ : Heap} {L : Addr} {m : Str → Option Value} {env : Env} {elt : Expr} {x : Str} {scope : Scope} {cl : List (Str × Addr)} {s : Shared} {S : Led → Prop} {P : Nat → Value → Prop} {Fin : List Value → Led → Prop} {n : Nat} (J : Nat → List Value → Led → Prop)
    (done : ∀ ys news, J n ys news → Fin ys news)
    (step : ∀ i ys news v I oI C oC D m₂ h tk (E' : Value → Shared → Prop), i < n → P i v → J i ys news → LCg.NsObj oC m₂ → m₂ x = some v → Fr h₀ L h m → News h₀ L h ((I, oI) :: (C, oC) :: (D, LCg.lst ys) :: news) → LCg.Off3 I C D news → ((@Ne Nat I C) ∧ (@Ne Nat I D) ∧ (@Ne Nat C D)) →
      wpAny (model prog w) A (eval elt (compEnvC scope cl C env)) (LCg.CompEnd h₀ L m { s with heap := h, toks := tk } I oI C oC D (LCg.lst ys) S (fun y news' => J (i + 1) (ys ++ [y]) news')) E' { s with heap := h, toks := tk }) :
    ∀ k i ys news, i + k = n → J i ys news → LCg.CompRest prog w A h₀ L m env elt x scope cl s S P Fin k i ys news := by
  intro k
  induction k with
  | zero => intro i ys news e hJ; exact .zero (done _ _ (by rw [← e]; exact hJ))
  | succ k ih =>
    intro i ys news e hJ
    refine .succ fun v I oI C oC D m₂ h tk E' hP hC hx F N o3 ne => ?_
    refine wpAny_mono (step i ys news v I oI C oC D m₂ h tk E' (by omega) hP hJ hC hx F N o3 ne) (fun y s₂ q => ?_) fun _ _ e => e
    obtain ⟨h', tk', news', rfl, F', N', off, hS, hJ'⟩ := q
    exact ⟨h', tk', news', rfl, F', N', off, hS, ih (i + 1) _ _ (by omega) hJ'⟩
/-- the same, the ledger standing -/
theorem comp_indC {prog : Program} {w : World} {A : Around} {h₀ : Heap} {L : Addr} {m : Str → Option Value} {env : Env} {elt : Expr} {x : Str} {scope : Scope} {cl : List (Str × Addr)} {s : Shared} {S : Led → Prop} {P : Nat → Value → Prop} {Fin : List Value → Led → Prop} {n : Nat} {news : Led} (J : Nat → List Value → Prop)
    (hj : J 0 []) (done : ∀ ys, J n ys → Fin ys news)
    (step : ∀ i ys v I oI C oC D m₂ h tk (E' : Value → Shared → Prop), i < n → P i v → J i ys → LCg.NsObj oC m₂ → m₂ x = some v → Fr h₀ L h m → News h₀ L h ((I, oI) :: (C, oC) :: (D, LCg.lst ys) :: news) → LCg.Off3 I C D news → ((@Ne Nat I C) ∧ (@Ne Nat I D) ∧ (@Ne Nat C D)) →
      wpAny (model prog w) A (eval elt (compEnvC scope cl C env)) (LCg.CompEnd h₀ L m { s with heap := h, toks := tk } I oI C oC D (LCg.lst ys) S (fun y news' => news' = news ∧ J (i + 1) (ys ++ [y]))) E' { s with heap := h, toks := tk }) :
    LCg.CompRest prog w A h₀ L m env elt x scope cl s S P Fin n 0 [] news :=
  comp_ind (fun i ys nw => nw = news ∧ J i ys) (fun ys nw h => by rw [h.1]; exact done ys h.2) (fun i ys nw v I oI C oC D m₂ h tk E' hi hP hJ hC hx F N o3 ne => by
    obtain ⟨rfl, hJ⟩ := hJ
    exact step i ys v I oI C oC D m₂ h tk E' hi hP hJ hC hx F N o3 ne) n 0 [] news (by omega) ⟨rfl, hj⟩
theorem CompEnd_same {h₀ : Heap} {L I C D : Addr} {m : Str → Option Value} {s₁ : Shared} {oI oC oD : Obj} {S : Led → Prop} {J : Value → Prop} {y : Value} {h' : Heap} {tk : Nat} {news : Led}
    (F : Fr h₀ L h' m) (N : News h₀ L h' ((I, oI) :: (C, oC) :: (D, oD) :: news)) (off : LCg.Off3 I C D news) (hS : S news) (hJ : J y) :
    LCg.CompEnd h₀ L m s₁ I oI C oC D oD S (fun y news' => news' = news ∧ J y) y { s₁ with heap := h', toks := tk } := ⟨h', tk, news, rfl, F, N, off, hS, rfl, hJ⟩
theorem row11_2 : True := by
  k_with "W:CompSrc" => ((k_here; k_extra "my comp"))
  exact trivial

/-- a dict of ints at d -/
structure DicAt (w : World) (news : Led) (d : Addr) (c : List (Int × Int)) : Prop where
  ex : ∃ o kvs, (d, o) ∈ news ∧ o.IsDictOf (PySem.intKind Pg w) kvs ∧ FlatPairs PyData.int kvs (kdfD c) ∧ (d == sysModules) = false

noncomputable def mvI (c : List (Int × Int)) (i : Int) : Int := if i = -1 then -1 else kdfLook c i (-2)

theorem moved_int_con {w : World} {mean : ExcName → Option Value} {mg mb : Str → Option Value} {news : Led} {d : Addr} {c : List (Int × Int)} {i : Int} {ti : Tok} (H : DicAt w news d c) :
    Con w mean mg mb 4 32 411 [.ref d, .int i ti] news (RI news (mvI c i)) := by
  obtain ⟨o, kvs, h1, h2, h3, h4⟩ := H.ex
  unfold Con; intro dp un gd cn csc a0 ccd cl outer A₀ base h₀ L m s Q E B F X N T hk hdp hun hret
  tbn_conj
  all_goals first | exact hret _ _ _ _ (by k_asm) (by k_asm) ⟨ktn_int (by simp [mvI, *]), by ktd_sub⟩

theorem moved_none_con {w : World} {mean : ExcName → Option Value} {mg mb : Str → Option Value} {news : Led} {d : Addr} :
    Con w mean mg mb 4 32 411 [.ref d, .none] news (fun r n => r = .none ∧ ∀ p ∈ news, p ∈ n) := by
  unfold Con; intro dp un gd cn csc a0 ccd cl outer A₀ base h₀ L m s Q E B F X N T hk hdp hun hret
  tbn_conj
  all_goals first | exact hret _ _ _ _ (by k_asm) (by k_asm) ⟨rfl, by ktd_sub⟩

theorem moved_list_con {w : World} {mean : ExcName → Option Value} {mg mb : Str → Option Value} {news : Led} {d l : Addr} {c : List (Int × Int)} {ws : List Value} {ns : List Int} {k : Nat} (H : DicAt w news d c) (hl : (l, lstO ws k) ∈ news) (hw : IntsAre ws ns) (hf : ns.length ≤ 100) :
    Con w mean mg mb 4 32 411 [.ref d, .ref l] news (RL news (some (ns.map fun i => kdfLook c i (-2)))) := by
  obtain ⟨o, kvs, h1, h2, h3, h4⟩ := H.ex
  unfold Con; intro dp un gd cn csc a0 ccd cl outer A₀ base h₀ L m s Q E B F X N T hk hdp hun hret
  tbn_conj
  all_goals exact hret _ _ _ _ (by k_asm) (by k_asm) (RL.some rfl (by ktd_sub) (by k_mem) (by assumption))

theorem calm12 : True := by
  w_top off
  exact trivial
structure Ans : Type where
  a1 : Int
  a2 : Int
  a3 : Option (List Int)
  a4 : Int
  a5 : Int
noncomputable def V3 (n : Led) (v : Value) : Option (List Int) → Prop
  | none => v = .none
  | some ns => ∃ l ws k, v = .ref l ∧ (l, lstO ws k) ∈ n ∧ IntsAre ws ns
/-- a list of five answers -/
noncomputable def AnsAt (n : Led) (r : Value) (A : Ans) : Prop :=
  ∃ l k t1 t2 v3 t4 t5, r = .ref l ∧ (l, lstO [.int A.a1 t1, .int A.a2 t2, v3, .int A.a4 t4, .int A.a5 t5] k) ∈ n ∧ V3 n v3 A.a3
noncomputable def ansM (R : List Rw) (ig : Int → Bool) (mask : Int) (Ts : List Tst) (c : List (Int × Int)) (k : Int) : Ans :=
  { a1 := mvI c (scanS R.length 1 (nbC R ig) (k + 1)),
    a2 := mvI c (scanS R.length (-1) (nbC R ig) (k + -1)),
    a3 := (inM R ig mask Ts k).map fun ns => ns.map fun i => kdfLook c i (-2),
    a4 := mvI c (lastL (stF R ig mask 1) Ts k),
    a5 := mvI c (lastL (stF R ig mask (-1)) Ts k) }

theorem V3_none {R : List Rw} {ig : Int → Bool} {mask : Int} {Ts : List Tst} {c : List (Int × Int)} {k : Int} {n : Led} (e : inM R ig mask Ts k = none) : V3 n .none (ansM R ig mask Ts c k).a3 := by
  show V3 n .none ((inM R ig mask Ts k).map _)
  rw [e]
  rfl
theorem V3_some {R : List Rw} {ig : Int → Bool} {mask : Int} {Ts : List Tst} {c : List (Int × Int)} {k : Int} {n : Led} {ns : List Int} {l : Addr} {ws : List Value} {j : Nat} (e : inM R ig mask Ts k = some ns) (hm : (l, lstO ws j) ∈ n) (hi : IntsAre ws (ns.map fun i => kdfLook c i (-2))) : V3 n (.ref l) (ansM R ig mask Ts c k).a3 := by
  show V3 n (.ref l) ((inM R ig mask Ts k).map _)
  rw [e]
  exact ⟨l, ws, j, rfl, hm, hi⟩
theorem RL.cases {news n : Led} {o : Option (List Int)} {r : Value} (h : RL news o r n) : (∀ p ∈ news, p ∈ n) ∧ ((o = .none ∧ r = .none) ∨ ∃ ns l ws k, o = .some ns ∧ r = .ref l ∧ (l, lstO ws k) ∈ n ∧ IntsAre ws ns) := by
  obtain ⟨s, h⟩ := h
  cases o with
  | none => exact ⟨s, .inl ⟨rfl, h⟩⟩
  | some ns => obtain ⟨l, ws, k, h1, h2, h3⟩ := h; exact ⟨s, .inr ⟨ns, l, ws, k, rfl, h1, h2, h3⟩⟩
theorem DicAt.mono {w : World} {news nx : Led} {d : Addr} {c : List (Int × Int)} (H : DicAt w news d c) (s : ∀ p ∈ news, p ∈ nx) : DicAt w nx d c :=
  let ⟨a, b, h1, r⟩ := H.ex; ⟨⟨a, b, s _ h1, r⟩⟩
/-- its ints lie below a bound: the lists of input_at are no longer than the tests -/
theorem inL_len {f : Tst → Int → Int} : ∀ (Ts : List Tst) (acc ns : List Int), inL f Ts acc = some ns → ns.length ≤ acc.length + Ts.length
  | [], acc, ns, h => by cases h; simp
  | T :: r, acc, ns, h => by
    unfold inL at h
    split at h
    · cases h
    · have := inL_len r _ ns h
      simp only [List.length_append, List.length_cons, List.length_nil] at this ⊢
      omega
theorem inM_len {R : List Rw} {ig : Int → Bool} {mask : Int} {Ts : List Tst} {k : Int} {ns : List Int} (h : inM R ig mask Ts k = some ns) : ns.length ≤ 1 + Ts.length := by
  cases Ts with
  | nil => cases h
  | cons T r =>
    unfold inM at h
    dsimp only at h
    split at h
    · have := inL_len r _ ns h
      simp only [List.length_cons, List.length_nil] at this ⊢
      omega
    · cases h

theorem row12_1 : True := by
  k_with "W:call ref" => ((k_here; (with_reducible show wpAny _ _ (call (Value.ref 120) _) _ _ _); k_dflt (refine' Con.useI (next_con ?cH) ?k1 ?k2 ?k3 ?k4 ?k5 ?kK ?kd ?ku ?_; tb_start; (case cH => k_asm); k_whole); intro x1ᵣ x2ᵣ x3ᵣ x4ᵣ x5ᵣ; (try k_sweep); (try k_fold)))
  exact trivial
theorem row12_2 : True := by
  k_with "W:call ref" => ((k_here; (with_reducible show wpAny _ _ (call (Value.ref 127) _) _ _ _); k_dflt (refine' Con.useI (before_con ?cH) ?k1 ?k2 ?k3 ?k4 ?k5 ?kK ?kd ?ku ?_; tb_start; (case cH => k_asm); k_whole); intro x1ᵣ x2ᵣ x3ᵣ x4ᵣ x5ᵣ; (try k_sweep); (try k_fold)))
  exact trivial
theorem row12_3 : True := by
  k_with "W:call ref" => ((k_here; (with_reducible show wpAny _ _ (call (Value.ref 162) _) _ _ _); k_dflt (refine' Con.useI (ahead_con ?cH ?c1 ?c2) ?k1 ?k2 ?k3 ?k4 ?k5 ?kK ?kd ?ku ?_; tb_start; (case cH => k_asm); (case c2 => k_asm); (case c1 => k_mem); k_whole); intro x1ᵣ x2ᵣ x3ᵣ x4ᵣ x5ᵣ; (try k_sweep); (try k_fold)))
  exact trivial
theorem row12_4 : True := by
  k_with "W:call ref" => ((k_here; (with_reducible show wpAny _ _ (call (Value.ref 169) _) _ _ _); k_dflt (refine' Con.useI (back_con ?cH ?c1 ?c2) ?k1 ?k2 ?k3 ?k4 ?k5 ?kK ?kd ?ku ?_; tb_start; (case cH => k_asm); (case c2 => k_asm); (case c1 => k_mem); k_whole); intro x1ᵣ x2ᵣ x3ᵣ x4ᵣ x5ᵣ; (try k_sweep); (try k_fold)))
  exact trivial
theorem row12_5 : True := by
  k_with "W:call ref" => ((k_here; (with_reducible show wpAny _ _ (call (Value.ref 411) [Value.ref _, Value.int _ _]) _ _ _); k_dflt (refine' Con.useI (moved_int_con ?cH) ?k1 ?k2 ?k3 ?k4 ?k5 ?kK ?kd ?ku ?_; tb_start; (case cH => k_asm); k_whole); intro x1ᵣ x2ᵣ x3ᵣ x4ᵣ x5ᵣ; (try k_sweep); (try k_fold)))
  exact trivial
theorem row12_6 : True := by
  k_with "W:call ref" => ((k_here; (with_reducible show wpAny _ _ (call (Value.ref 411) [Value.ref _, Value.none]) _ _ _); k_dflt (refine' Con.use moved_none_con ?k1 ?k2 ?k3 ?k4 ?k5 ?kK ?kd ?ku ?_; tb_start; k_whole); intro x1ᵣ x2ᵣ x3ᵣ x4ᵣ x5ᵣ x6ᵣ x7ᵣ; obtain ⟨x8ᵣ, x9ᵣ⟩ := x7ᵣ; subst x8ᵣ; replace x6ᵣ := cb_drop x6ᵣ x9ᵣ; clear x9ᵣ; (try k_sweep); (try k_fold)))
  exact trivial
theorem row12_7 : True := by
  k_with "W:call ref" => ((k_here; (with_reducible show wpAny _ _ (call (Value.ref 411) [Value.ref _, Value.ref _]) _ _ _); plain_pass; k_extra "my c411"))
  exact trivial
theorem row12_8 : True := by
  k_with "W:call ref" => ((k_here; (with_reducible show wpAny _ _ (call (Value.ref 148) _) _ _ _); plain_pass; k_extra "my c148"))
  exact trivial

theorem answers_con {w : World} {mean : ExcName → Option Value} {mg mb : Str → Option Value} {news : Led} {x tt d : Addr} {R : List Rw} {mask flag q : Int} {cs as : List (Int × Int)} {ms : List Int} {k : Int} {tk : Tok} {vt : List Value} {kt : Nat} {Ts : List Tst} {c : List (Int × Int)}
    (H : SceneAt w news x R mask flag q cs as ms) (htt : (tt, tupO vt kt) ∈ news) (HT : TestsIn w news vt Ts) (HD : DicAt w news d c) (h0 : 0 ≤ k) (h1 : k < R.length) (hne : 0 < Ts.length) :
    Con w mean mg mb 20 160 418 [.ref x, .int k tk, .ref tt, .ref d] news (fun r n => (∀ p ∈ news, p ∈ n) ∧ AnsAt n r (ansM R (ignM cs as ms flag q) mask Ts c k)) := by
  k_with "my c148" => (k_dflt (refine' Con.use (input_con H htt HT h0 h1 hne) ?k1 ?k2 ?k3 ?k4 ?k5 ?kK ?kd ?ku ?_; tb_start; k_whole); intro r9 n9 h9 tk9 F9 N9 hr9; (try k_sweep); (try k_fold); obtain ⟨s9, hr9⟩ := RL.cases hr9; (have H := H.mono s9); (have htt := s9 _ htt); (have HT := HT.mono s9); (have HD := HD.mono s9); (rcases hr9 with ⟨eo9, e9⟩ | ⟨ns9, l9, ws9, k9, eo9, e9, hm9, hi9⟩) <;> subst e9)
  k_with "my c411" => (k_dflt (refine' Con.use (moved_list_con ?cH ?c1 ?c2 ?c3) ?k1 ?k2 ?k3 ?k4 ?k5 ?kK ?kd ?ku ?_; tb_start; (case cH => k_asm); (case c1 => k_mem); (case c2 => k_asm); (case c3 => (have := inM_len (by assumption); have := HT.few; omega)); k_whole); intro r9 n9 h9 tk9 F9 N9 hr9; (try k_sweep); (try k_fold); rename (SceneAt _ _ _ _ _ _ _ _ _ _) => H; rename (TestsIn _ _ _ _) => HT; rename (DicAt _ _ _ _) => HD; rename ((tt, _) ∈ _) => htt; obtain ⟨s9, l8, ws8, k8, e8, hm8, hi8⟩ := hr9; (have H := H.mono s9); (have htt := s9 _ htt); (have HT := HT.mono s9); (have HD := HD.mono s9); subst e8)
  unfold Con; intro dp un gd cn csc a0 ccd cl outer A₀ base h₀ L m s Q E B F X N T hk hdp hun hret
  ktn_open
  all_goals first
    | exact hret _ _ _ _ (by k_asm) (by k_asm) ⟨fun p hp => List.mem_cons_of_mem _ (s9 p hp), _, _, _, _, _, _, _, rfl, List.mem_cons_self, V3_none eo9⟩
    | exact hret _ _ _ _ (by k_asm) (by k_asm) ⟨fun p hp => List.mem_cons_of_mem _ (s9 p (by apply_assumption; exact hp)), _, _, _, _, _, _, _, rfl, List.mem_cons_self, V3_some eo9 (List.mem_cons_of_mem _ hm8) hi8⟩


theorem calm13 : True := by
  w_top off
  exact trivial
local macro_rules | `(tactic| k_all) => `(tactic| assumption)
section
variable {prog : Program} {w : World} {A : Around} {E : Value → Shared → Prop} {s : Shared} {h₀ : Heap} {L : Addr} {news : Led}
theorem len_lstI {t : Addr} {vs : List Value} {gs : List Int} {n : Nat} {Q : Value → Shared → Prop} (N : News h₀ L s.heap news) (hm : (t, lstO vs n) ∈ news) (hi : IntsAre vs gs) (hl : gs.length ≤ 100)
    (h : Q (.int gs.length (s.toks + 1)) { s with toks := s.toks + 1 + 1 }) : wpAny (model prog w) A (call (.builtin "len") [.ref t]) Q E s := by
  have e : vs.toArray.size = gs.length := by rw [List.size_toArray, hi.length]
  exact call_len_list (News.isList N hm) (by rw [e]; omega) (by rw [e]; exact h)
theorem item_lstI {value slice : PySem.Expr} {l : Addr} {vs : List Value} {ns : List Int} {n : Nat} {k : Int} {u : Tok} {Q : Value → Shared → Prop} (N : News h₀ L s.heap news) (hm : (l, lstO vs n) ∈ news) (hi : IntsAre vs ns) (hl : ns.length ≤ 100)
    (h0 : 0 ≤ k) (h1 : k < ns.length) (h : ∀ t, Q (.int (ns.getD k.toNat 0) t) s)
    (hs : subscripted slice false (.ref l) (.int k u) = operate [.ref l, .int k u] (getItem (.ref l) (.int k u)) := by with_unfolding_all rfl) (hg : ∀ r, letTemporaryGo value (.ref l) r = pure () := by intro _; with_unfolding_all rfl) :
    wpAny (model prog w) A (subscriptTail value slice (.ref l) (.int k u)) Q E s := by
  obtain ⟨t, hx⟩ := hi.get k.toNat _ (ints_getD h0 h1)
  exact kim_list N hm rfl rfl h0 (by omega) hx (h t) hs hg
end
theorem row13_2 : True := by
  k_with "W:call builtin:len" => ((k_here; (with_reducible show wpAny _ _ (call (Value.builtin "len") [Value.ref _]) _ _ _); k_dflt (refine' len_lstI ?k1 ?k2 ?k3 ?k4 ?_; (case k1 => k_asm); (case k2 => k_mem); (case k3 => k_asm); (case k4 => omega); k_whole)))
  exact trivial
theorem row13_3 : True := by
  k_with "W:subscriptTail" => ((k_here; (with_reducible show wpAny _ _ (subscriptTail _ _ (Value.ref _) (Value.int _ _)) _ _ _); k_dflt (refine' item_lstI ?k1 ?k2 ?k3 ?k4 ?k5 ?k6 ?_; (case k1 => k_asm); (case k2 => k_mem); (case k3 => k_asm); (case k4 => omega); (case k5 => first | k_asm | omega); (case k6 => first | k_asm | omega); k_whole); intro _))
  exact trivial
theorem draw_con {w : World} {mean : ExcName → Option Value} {mg mb : Str → Option Value} {rest : Led} {tp cl : Addr} {ws : List Value} {ns : List Int} {n k : Nat} {at' lim : Int} {ta tl : Tok}
    (hc : (cl, lstO ws k) ∈ rest) (hw : IntsAre ws ns) (h0 : 0 < ns.length) (h60 : ns.length ≤ 60) (ha : 0 ≤ at') (ha2 : at' ≤ 100) (hoff : ∀ p ∈ rest, p.1 ≠ tp) (hlim : 0 < lim) (hl2 : lim ≤ 256) :
    Con w mean mg mb 2 16 394 [.ref tp, .int lim tl] ((tp, lstO [.ref cl, .int at' ta] n) :: rest) (fun r n' => ∃ v t ta', r = .int v t ∧ 0 ≤ v ∧ v < lim ∧ ∀ p ∈ (tp, lstO [.ref cl, .int (at' + 1) ta'] n) :: rest, p ∈ n') := by
  unfold Con; intro dp un gd cn csc a0 ccd cl outer A₀ base h₀ L m s Q E B F X N T hk hdp hun hret
  have hm1 := Int.fmod_nonneg_of_pos at' (b := (ns.length : Int)) (by omega)
  have hm2 := Int.fmod_lt_of_pos at' (b := (ns.length : Int)) (by omega)
  ktn_open
  all_goals exact hret _ _ _ _ (by k_asm) (by k_asm) ⟨_, _, _, rfl, Int.fmod_nonneg_of_pos _ hlim, Int.fmod_lt_of_pos _ hlim, fun _ h => h⟩

/-- the tape at hand: it lies somewhere in the ledger, its cells beside it -/
theorem draw_use {w : World} {mean : ExcName → Option Value} {mg mb : Str → Option Value} {tp cl : Addr} {ws : List Value} {ns : List Int} {n k : Nat} {at' lim : Int} {ta tl : Tok}
    {dp un : Nat} {gd : Option (List Code)} {cn : Str} {csc : Scope} {a : Addr} {ccd : Value} {cll : List (Str × Addr)} {outer : List Env} {A₀ : Around} {base h₀ : Heap} {L : Addr} {m : Str → Option Value} {s : Shared} {Q E : Value → Shared → Prop} {news : Led} {g : Obj → Led}
    (B : Below A₀ base outer h₀) (F : Fr h₀ L s.heap m) (X : (heapK w.params).In h₀) (N : News h₀ L s.heap news) (T : Top viewV (looseW viewV []) mean mg mb h₀) (hk : csc.kind = .function) (hdp : dp + 2 < recursionLimit) (hun : un + 16 < cLine)
    (U : UpdF tp (lstO [.ref cl, .int at' ta] n) news g) (hc : (cl, lstO ws k) ∈ news) (hne : cl ≠ tp) (hw : IntsAre ws ns) (h0 : 0 < ns.length) (h60 : ns.length ≤ 60) (ha : 0 ≤ at') (ha2 : at' ≤ 100) (hlim : 0 < lim) (hl2 : lim ≤ 256)
    (ret : ∀ v t ta' h' tk', 0 ≤ v → v < lim → Fr h₀ L h' m → News h₀ L h' (g (lstO [.ref cl, .int (at' + 1) ta'] n)) → Q (.int v t) { s with heap := h', toks := tk' }) :
    wpAny (model Pg w) (ktrTop dp un gd cn csc L a ccd cll outer) (call (.ref 394) [.ref tp, .int lim tl]) Q E s := by
  obtain ⟨pre, post, rfl, hg, hpre, hpost⟩ := U.split
  have hoff : ∀ p ∈ pre ++ post, p.1 ≠ tp := fun p hp => (List.mem_append.mp hp).elim (hpre p) (hpost p)
  have N' : News h₀ L s.heap ((tp, lstO [.ref cl, .int at' ta] n) :: (pre ++ post)) := cb_drop N fun p hp => by
    rcases List.mem_cons.mp hp with rfl | hp
    · exact List.mem_append.mpr (.inr List.mem_cons_self)
    · exact (List.mem_append.mp hp).elim (fun h => List.mem_append.mpr (.inl h)) fun h => List.mem_append.mpr (.inr (List.mem_cons_of_mem _ h))
  have hc' : (cl, lstO ws k) ∈ pre ++ post := by
    rcases List.mem_append.mp hc with h | h
    · exact List.mem_append.mpr (.inl h)
    · rcases List.mem_cons.mp h with h | h
      · exact absurd (congrArg Prod.fst h) hne
      · exact List.mem_append.mpr (.inr h)
  refine (draw_con hc' hw h0 h60 ha ha2 hoff hlim hl2).use B F X N' T hk hdp hun fun r n' h' tk' F' Nn hr => ?_
  obtain ⟨v, t, ta', rfl, hv0, hv1, hs⟩ := hr
  refine ret v t ta' h' tk' hv0 hv1 F' (cb_drop Nn fun p hp => hs p ?_)
  rw [hg] at hp
  rcases List.mem_append.mp hp with h | h
  · exact List.mem_cons_of_mem _ (List.mem_append.mpr (.inl h))
  · rcases List.mem_cons.mp h with rfl | h
    · exact List.mem_cons_self
    · exact List.mem_cons_of_mem _ (List.mem_append.mpr (.inr h))

theorem calm14 : True := by
  w_top off
  exact trivial
/-! dict(a list of pairs) -/
theorem dk_entry : entryFor table "dict.update.loop" = some Builtin.«dict.update.loop» := entryFor_of_tree (by kernel_rfl)
theorem dk_plain : plainId "dict.update.loop" = true := by decide +kernel
theorem dk_nokeys : typeLookup (.type "list") "keys" = pure none := by rw [typeLookup_type, builtinLookup_eq_fast]; kernel_rfl
theorem dk_attrerr : isSubtype (.type "AttributeError") (.type "AttributeError") = pure true := by rw [isSubtype_type]; kernel_rfl

theorem getAttrQ_miss_list {prog : Program} {w : World} {A : Around} {E : Value → Shared → Prop} {s : Shared} {a : Addr} {o : Obj} {xs : Array Value} {k : Nat} {name : Str} {Q : Option Value → Shared → Prop}
    (hx : s.heap.get? a = some o) (hc : o.cls = .type "list") (hdat : o.data = .seq xs k) (hd : o.dict = none) (hmiss : typeLookup (.type "list") name = pure none) (hname : (["__module__", "__name__", "__qualname__", "__doc__", "__annotations__"] : List Str).contains name = false) (hA : A.handled = none)
    (h : ∀ h' tk, (∀ b o, s.heap.get? b = some o → h'.get? b = some o) → Q none { s with heap := h', toks := tk }) (hsz : name.length + 100 ≤ sizeLine := by size_fits) :
    wpAny (model prog w) A (getAttr? (.ref a) name) Q E s := by
  obtain ⟨c, dct, dat, sl⟩ := o
  simp only at hc hdat hd
  subst hc hdat hd
  obtain ⟨hp, g, d, tk, os⟩ := s
  have hT : ∀ tk', (⟨hp, g, d, tk', os⟩ : Shared).TypeIs (.ref a) "list" := fun _ => ⟨_, hx, rfl⟩
  have f1 := sub_AttributeError
  have f3 := F.slot_list_getattribute.lookup
  have f4 := F.slot_list_getattribute.bind (.ref a)
  have f5 := am_list_getattr_none
  unfold getAttr? getAttrBy?
  refine wpAny_bind (wpAny_mkText (wpAny_bind (wpAny_attempt ?_)))
  unfold getAttrBy
  repeat (any_goals (first | with_reducible assumption | with_reducible exact hT _ | ((with_reducible show wpAny _ _ (call (Value.builtin "list.__getattribute__") _ _) _ _ _); refine call_meets F.slot_list_getattribute (hT _) am_entry_list_getattribute (F.args_list_getattribute_2 _ _) (meets_getattribute_miss_list a xs k sl name _ hmiss hname hsz) ⟨hx, hA, fun h' tk' e hx' => ?_⟩) | wp_step))
  obtain ⟨t', u', he⟩ := hx'.there
  show wpAny _ _ (getattributeRaised _ _ _ _ _ _ _) _ _ _
  unfold getattributeRaised
  repeat (any_goals (first | with_reducible assumption | wp_step))
  exact h _ _ hx'.keeps

/-- the pairs of a list of 2-tuples whose keys are ints -/
noncomputable def PairsIn (h : Heap) (d I : Addr) (its : List Value) (ps : List (Int × Value)) : Prop :=
  its.length = ps.length ∧ ∀ (j : Nat) (p : Int × Value), ps[j]? = some p → ∃ t u, its[j]? = some (Value.ref t) ∧ IsTup h t #[Value.int p.1 u, p.2] ∧ t ≠ d ∧ t ≠ I
theorem PairsIn.keep {h h' : Heap} {d I : Addr} {its : List Value} {ps : List (Int × Value)} (H : PairsIn h d I its ps) (hk : ∀ b o, b ≠ d → b ≠ I → h.get? b = some o → h'.get? b = some o) : PairsIn h' d I its ps :=
  ⟨H.1, fun j p e => let ⟨t, u, h1, h2, h3, h4⟩ := H.2 j p e; ⟨t, u, h1, (let ⟨o, ho, r⟩ := h2; ⟨o, hk t o h3 h4 ho, r⟩), h3, h4⟩⟩

theorem dk_loop {prog : Program} {w : World} {A : Around} {R : Result → Shared → Prop} {ax I d : Addr} {its : List Value} {ps : List (Int × Value)} {res : Value} (hh : A.handled = none) (hne : ax ≠ I) (hdI : d ≠ I) (hda : d ≠ ax) (hfew : ps.length ≤ 100) :
    ∀ (k i : Nat) (s : Shared) (kvs : List (Int × Value)) (ti : Tok), ps.length - i = k → i ≤ ps.length → kvs.length ≤ i → (s.heap.IsListIter I ax i ∧ s.heap.IsList ax its.toArray) → s.heap.DictOf (PySem.intKind prog w) d kvs → PairsIn s.heap d I its ps →
    (∀ h' tk, (∀ b o, b ≠ d → b ≠ I → s.heap.get? b = some o → h'.get? b = some o) → h'.DictOf (PySem.intKind prog w) d (merged kvs (ps.drop i)) → R (.ok (.ret res)) { s with heap := h', toks := tk }) →
    codeAny (model prog w) A (.builtin "dict.update.loop" ⟨[.ref d, .ref I, .int (i : Int) ti, res], []⟩) R s := by
  intro k
  induction k with
  | zero =>
    intro i s kvs ti hk hi hkv hst hd hp hR
    have hin : i = ps.length := by omega
    have W := Walks.list (prog := prog) (w := w) (A := A.in1) hh I ax hne its.toArray
    have hsz : its.toArray.size = i := by rw [List.size_toArray, hp.1, hin]
    rw [hsz] at W
    refine codeAny_builtin dk_entry ?_
    rw [Around.under_plainId dk_plain _]
    show wpAny _ A.in1 (pyNext (.ref I) >>= _) _ _ s
    refine wpAny_bind (W.done s _ _ hst fun h' tk hm => ?_)
    show wpAny _ A.in1 (Builtin.Dict.addKeywords d [] >>= _) _ _ _
    refine wpAny_bind (wpAny_pure (wpAny_pure (hR h' tk (fun b o _ hbI e => hm b o (by simpa using hbI) e) ?_)))
    rw [hin, List.drop_length]
    exact let ⟨o, es, ep, ho, r⟩ := hd; ⟨o, es, ep, hm d o (by simpa using hdI) ho, r⟩
  | succ k ih =>
    intro i s kvs ti hk hi hkv hst hd hp hR
    have hlt : i < ps.length := by omega
    have W := Walks.list (prog := prog) (w := w) (A := A.in1) hh I ax hne its.toArray
    refine codeAny_builtin dk_entry ?_
    rw [Around.under_plainId dk_plain _]
    show wpAny _ A.in1 (pyNext (.ref I) >>= _) _ _ s
    refine wpAny_bind (W.item i s _ _ (by rw [List.size_toArray, hp.1]; exact hlt) hst fun v h' tk hv hst' hm => ?_)
    have hm' : ∀ b o, b ≠ I → s.heap.get? b = some o → h'.get? b = some o := fun b o hb e => hm b o (by simpa using hb) e
    obtain ⟨t, u, e1, ht, htd, htI⟩ := hp.2 i ps[i] (List.getElem?_eq_getElem hlt)
    have hv' : v = .ref t := by
      have hv2 : its[i]? = some v := by simpa using hv
      rw [e1] at hv2
      exact (Option.some.inj hv2).symm
    subst hv'
    have ht' : IsTup h' t #[Value.int ps[i].1 u, ps[i].2] := let ⟨o, ho, r⟩ := ht; ⟨o, hm' t o htI ho, r⟩
    have hd' : h'.DictOf (PySem.intKind prog w) d kvs := let ⟨o, es, ep, ho, r⟩ := hd; ⟨o, es, ep, hm' d o hdI ho, r⟩
    have hp' := hp.keep fun b o _ hb e => hm' b o hb e
    obtain ⟨ot, hot, hct, nt, hdt⟩ := id ht'
    refine wpAny_bind (wpAny_holding (wpAny_bind (wpAny_tryCatch ?_)))
    unfold Builtin.Dict.pairItems
    refine wpAny_bind (wpAny_typeOf (T := "tuple") ⟨ot, hot, hct⟩ ?_)
    rw [if_pos (by decide)]
    refine wpAny_bind ?_
    show wpAny _ _ (load t >>= _) _ _ _
    refine wpAny_bind (wpAny_load hot ?_)
    rw [hdt]
    refine wpAny_pure (wpAny_pure ?_)
    show wpAny _ _ (holding _ (dictSet d _ _)) _ _ _
    refine wpAny_holding (wpAny_dictSet_pairs (intKind_is _ _ _ _) hd' (fun h'' hd'' hs'' => ?_) (by rw [sizeLine_eq]; omega))
    have hk2 : ∀ b o, b ≠ d → h'.get? b = some o → h''.get? b = some o := fun b o hb e => (hs''.2 b hb).trans e
    have hst'' : h''.IsListIter I ax (i + 1) ∧ h''.IsList ax its.toArray := ⟨hst'.1.at fun o e => hk2 I o (Ne.symm hdI) e, hst'.2.at fun o e => hk2 ax o (Ne.symm hda) e⟩
    refine wpAny_pure ⟨plainId_quiet dk_plain _, ?_⟩
    refine ih (i + 1) _ _ _ (by omega) hlt ?_ hst'' hd'' (hp'.keep fun b o hb _ e => hk2 b o hb e) fun h3 tk3 hk3 hd3 => ?_
    · have := stored_length_le kvs ps[i].1 ps[i].2
      omega
    · refine hR h3 tk3 (fun b o hb hbI e => hk3 b o hb hbI (hk2 b o hb (hm' b o hbI e))) ?_
      rw [List.drop_eq_getElem_cons hlt]
      exact hd3

theorem calm15 : True := by
  w_top off
  exact trivial
section
variable {prog : Program} {w : World} {A : Around} {E : Value → Shared → Prop} {s : Shared}
theorem call_dict_pairs {ax : Addr} {its : List Value} {ps : List (Int × Value)} {n : Nat} {Q : Value → Shared → Prop}
    (hh : A.handled = none) (hl : s.heap.get? ax = some (lstO its n)) (hlen : its.length = ps.length)
    (hp : ∀ (j : Nat) (p : Int × Value), ps[j]? = some p → ∃ t u, its[j]? = some (Value.ref t) ∧ IsTup s.heap t #[Value.int p.1 u, p.2]) (hn : (ps.map (·.1)).Nodup) (hfew : ps.length ≤ 100)
    (h : ∀ h' tk, h'.DictOf (PySem.intKind prog w) s.heap.objs.size ps → (∀ b o, s.heap.get? b = some o → h'.get? b = some o) → Q (.ref s.heap.objs.size) { s with heap := h', toks := tk }) :
    wpAny (model prog w) A (call (.type "dict") [.ref ax]) Q E s := by
  refine callType_codes (Q₁ := fun obj s₁ => obj = .ref s.heap.objs.size ∧ s₁ = { s with heap := s.heap.push { cls := .type "dict", data := .dict #[] } }) F.kt_called_dict (F.kt_typeCall_dict_1 _) F.entry_dict_init (kt_code_dict_new _ ⟨rfl, rfl⟩) ?_
  rintro obj s₁ ⟨rfl, rfl⟩
  have hnew : (s.heap.push { cls := .type "dict", data := .dict #[] }).DictOf (PySem.intKind prog w) s.heap.objs.size [] := Heap.DictOf.new s.heap
  have old : ∀ b o, s.heap.get? b = some o → (s.heap.push { cls := .type "dict", data := .dict #[] }).get? b = some o := fun b o e => Heap.get?_push_of_some _ e
  have hdlt : s.heap.objs.size < (s.heap.push { cls := .type "dict", data := .dict #[] }).objs.size := by rw [Heap.size_push]; exact Nat.lt_succ_self _
  have hl1 := old _ _ hl
  have hlt := Heap.lt_size hl
  refine ⟨hnew.typeIs, F.args_dict_init_2 _ _, ?_⟩
  unfold Builtin.«dict.__init__»
  refine wpAny_bind ?_
  unfold Builtin.Dict.selfAndRest
  refine wpAny_bind (wpAny_notOrdered_dict hnew.typeIs ?_)
  show wpAny _ _ (pure (s.heap.objs.size, [Value.ref ax])) _ _ _
  refine wpAny_pure ?_
  show wpAny _ _ (Builtin.Dict.updateFrom "dict.__init__" s.heap.objs.size (.ref ax) [] .none) _ _ _
  unfold Builtin.Dict.updateFrom
  refine wpAny_bind (wpAny_typeOf (T := "list") ⟨_, hl1, rfl⟩ ?_)
  rw [if_pos (by decide)]
  refine wpAny_bind (getAttrQ_miss_list hl1 rfl rfl rfl dk_nokeys (by decide) hh (fun h' tk hk => ?_))
  simp only [Option.isNone_none, if_true]
  refine wpAny_bind (wpAny_rule ?_)
  refine wpAny_bind ?_
  have hl2 := hk _ _ hl1
  have hl3 : h'.IsList ax its.toArray := ⟨_, hl2, rfl, n, rfl⟩
  refine wpAny_pyIter_list (items := its.toArray) hl3 ?_
  have up : ∀ b o, h'.get? b = some o → (h'.push { cls := .type "list_iterator", data := .fields #[.ref ax, .int 0 0] }).get? b = some o := fun b o e => Heap.get?_push_of_some _ e
  have hdl : s.heap.objs.size < h'.objs.size := by
    obtain ⟨o, es, ep, ho, r⟩ := hnew
    exact Heap.lt_size (hk _ _ ho)
  have hal : ax < h'.objs.size := Heap.lt_size hl2
  refine wpAny_pure ⟨plainId_quiet dk_plain _, ?_⟩
  refine dk_loop (A := A.in1) (I := h'.objs.size) (ax := ax) (its := its) (ps := ps) hh (Nat.ne_of_lt hal) (Nat.ne_of_lt hdl) (Nat.ne_of_gt hlt) hfew ps.length 0 _ [] _ rfl (Nat.zero_le _) (Nat.le_refl _)
    ⟨⟨_, Heap.get?_push_size _ rfl, rfl, rfl⟩, ⟨_, up _ _ hl2, rfl, _, rfl⟩⟩ ?_ ⟨hlen, fun j p e => ?_⟩ (fun h'' tk' hk' hd => ?_)
  · exact let ⟨o, es, ep, ho, r⟩ := hnew; ⟨o, es, ep, up _ _ (hk _ _ ho), r⟩
  · obtain ⟨t, u, e1, ht⟩ := hp j p e
    obtain ⟨o, ho, r⟩ := ht
    have htl := Heap.lt_size ho
    exact ⟨t, u, e1, ⟨o, up _ _ (hk _ _ (old _ _ ho)), r⟩, Nat.ne_of_lt htl, Nat.ne_of_lt (Nat.lt_trans htl hdl)⟩
  · rw [List.drop_zero, merged_nil_of_nodup ps hn] at hd
    refine ⟨rfl, h h'' tk' hd fun b o e => ?_⟩
    have hb := Heap.lt_size e
    exact hk' b o (Nat.ne_of_lt hb) (Nat.ne_of_lt (Nat.lt_trans hb hdl)) (up _ _ (hk _ _ (old _ _ e)))
end
/-- a list of pairs of ints -/
inductive PairsL (news : Led) : List Value → List (Int × Int) → Prop where
  | nil : PairsL news [] []
  | cons {t : Addr} {k : Nat} {a b : Int} {u1 u2 : Tok} {vs : List Value} {c : List (Int × Int)} (h : (t, tupO [.int a u1, .int b u2] k) ∈ news) (r : PairsL news vs c) : PairsL news (.ref t :: vs) ((a, b) :: c)
theorem PairsL.mono {news nx : Led} {vs : List Value} {c : List (Int × Int)} (H : PairsL news vs c) (s : ∀ p ∈ news, p ∈ nx) : PairsL nx vs c := by
  induction H with
  | nil => exact .nil
  | cons h _ ih => exact .cons (s _ h) ih
theorem PairsL.snoc {news : Led} {vs : List Value} {c : List (Int × Int)} {t : Addr} {k : Nat} {a b : Int} {u1 u2 : Tok} (H : PairsL news vs c) (hm : (t, tupO [.int a u1, .int b u2] k) ∈ news) : PairsL news (vs ++ [.ref t]) (c ++ [(a, b)]) := by
  induction H with
  | nil => exact .cons hm .nil
  | cons h _ ih => exact .cons h ih
theorem PairsL.length {news : Led} {vs : List Value} {c : List (Int × Int)} (H : PairsL news vs c) : vs.length = c.length := by
  induction H with
  | nil => rfl
  | cons _ _ ih => simp [ih]
theorem PairsL.flat {news : Led} {vs : List Value} {c : List (Int × Int)} (H : PairsL news vs c) : ∃ ps : List (Int × Value), vs.length = ps.length ∧ ps.map (·.1) = c.map (·.1) ∧ FlatPairs PyData.int ps (kdfD c) ∧
    ∀ (j : Nat) (p : Int × Value), ps[j]? = some p → ∃ t u k, vs[j]? = some (Value.ref t) ∧ (t, tupO [.int p.1 u, p.2] k) ∈ news := by
  induction H with
  | nil => exact ⟨[], rfl, rfl, .nil, fun j p e => by simp at e⟩
  | @cons t k a b u1 u2 vs c h _ ih =>
    obtain ⟨ps, h1, h2, h3, h4⟩ := ih
    refine ⟨(a, .int b u2) :: ps, by simp [h1], by simp [h2], .cons (Flat.int b u2) h3, fun j p e => ?_⟩
    cases j with
    | zero =>
      rw [List.getElem?_cons_zero] at e
      cases e
      exact ⟨t, u1, k, rfl, h⟩
    | succ j =>
      rw [List.getElem?_cons_succ] at e
      obtain ⟨t', u, k', e1, e2⟩ := h4 j p e
      exact ⟨t', u, k', by rw [List.getElem?_cons_succ]; exact e1, e2⟩
theorem dict_of_pairs {w : World} {A : Around} {E : Value → Shared → Prop} {s : Shared} {h₀ : Heap} {L : Addr} {m : Str → Option Value} {news : Led} {l : Addr} {vs : List Value} {n : Nat} {c : List (Int × Int)} {Q : Value → Shared → Prop}
    (F : Fr h₀ L s.heap m) (N : News h₀ L s.heap news) (hlim : h₀.NoLimit) (hh : A.handled = none) (hm : (l, lstO vs n) ∈ news) (hp : PairsL news vs c) (hn : (c.map (·.1)).Nodup) (hfew : c.length ≤ 100)
    (k : ∀ d o h' tk, Fr h₀ L h' m → News h₀ L h' ((d, o) :: news) → (∀ p ∈ news, p.1 < d) → DicAt w [(d, o)] d c → Q (.ref d) { s with heap := h', toks := tk }) :
    wpAny (model Pg w) A (call (.type "dict") [.ref l]) Q E s := by
  obtain ⟨ps, h1, h2, h3, h4⟩ := hp.flat
  have hc : c.length = vs.length := hp.length.symm
  refine call_dict_pairs hh (N _ hm).1 h1 (fun j p e => ?_) (by rw [h2]; exact hn) (by omega) fun h' tk hd hk => ?_
  · obtain ⟨t, u, k, e1, e2⟩ := h4 j p e
    exact ⟨t, u, e1, ⟨_, (N _ e2).1, rfl, k, rfl⟩⟩
  · obtain ⟨o, ho, hd'⟩ := Heap.dictOf_iff.mp hd
    refine k _ o h' tk (F.keeps hk) (fun p hp => ?_) (fun p hp => Heap.lt_size (N p hp).1) ⟨o, ps, List.mem_cons_self, hd', h3, F.notModules (modules_low hlim)⟩
    rcases List.mem_cons.mp hp with rfl | hp
    · exact ⟨ho, Nat.ne_of_gt F.ns.lt, next_is_new F⟩
    · exact ⟨hk _ _ (N p hp).1, (N p hp).2⟩

theorem calm16 : True := by
  w_top off
  exact trivial
/-- the turns of a comprehension with a test by what holds between them -/
theorem comp_indT {prog : Program} {w : World} {A : Around} {h₀ : Heap} {L : Addr} {m : Str → Option Value} {env : Env} {ct elt : Expr} {x : Str} {scope : Scope} {cl : List (Str × Addr)} {s : Shared} {S : Led → Prop} {P : Nat → Value → Prop} {Fin : List Value → Led → Prop} {n : Nat} (J : Nat → List Value → Led → Prop)
    (done : ∀ ys news, J n ys news → Fin ys news)
    (step : ∀ i ys news v I oI C oC D m₂ h tk (E' : Value → Shared → Prop), i < n → P i v → J i ys news → LCg.NsObj oC m₂ → m₂ x = some v → Fr h₀ L h m → News h₀ L h ((I, oI) :: (C, oC) :: (D, LCg.lst ys) :: news) → LCg.Off3 I C D news → ((@Ne Nat I C) ∧ (@Ne Nat I D) ∧ (@Ne Nat C D)) →
      wpAny (model prog w) A (isTrue ct (compEnvC scope cl C env) (eval ct (compEnvC scope cl C env))) (fun ok s' => if ok = true then
        wpAny (model prog w) A (eval elt (compEnvC scope cl C env)) (LCg.CompEnd h₀ L m { s with heap := h, toks := tk } I oI C oC D (LCg.lst ys) S (fun y news' => J (i + 1) (ys ++ [y]) news')) E' s'
        else LCg.CompEnd h₀ L m { s with heap := h, toks := tk } I oI C oC D (LCg.lst ys) S (fun _ news' => J (i + 1) ys news') Value.none s') E' { s with heap := h, toks := tk }) :
    ∀ k i ys news, i + k = n → J i ys news → LCt.CompRestT prog w A h₀ L m env ct elt x scope cl s S P Fin k i ys news := by
  intro k
  induction k with
  | zero => intro i ys news e hJ; exact .zero (done _ _ (by rw [← e]; exact hJ))
  | succ k ih =>
    intro i ys news e hJ
    refine .succ fun v I oI C oC D m₂ h tk E' hP hC hx F N o3 ne => ?_
    refine wpAny_mono (step i ys news v I oI C oC D m₂ h tk E' (by omega) hP hJ hC hx F N o3 ne) (fun b s₂ q => ?_) fun _ _ e => e
    cases b with
    | true =>
      simp only [if_true] at q ⊢
      refine wpAny_mono q (fun y s₃ r => ?_) fun _ _ e => e
      obtain ⟨h', tk', news', rfl, F', N', off, hS, hJ'⟩ := r
      exact ⟨h', tk', news', rfl, F', N', off, hS, ih (i + 1) _ _ (by omega) hJ'⟩
    | false =>
      simp only [Bool.false_eq_true, if_false] at q ⊢
      obtain ⟨h', tk', news', rfl, F', N', off, hS, hJ'⟩ := q
      exact ⟨h', tk', news', rfl, F', N', off, hS, ih (i + 1) _ _ (by omega) hJ'⟩
theorem row16_1 : True := by
  k_with "W:CompSrcT" => ((k_here; k_extra "my compT"))
  exact trivial

/-- a stop of the walk -/
noncomputable def Halt (p : Prop) : Prop := p
theorem halt {p : Prop} (h : Halt p) : p := h
/-! the law's own body, taken out of the program by computation -/
noncomputable def lawStmts : List Stmt := match PySem.Challenge.pw_nu0171_01.main.body.getLast? with
  | some (.FunctionDef _ _ b _ _ _ _ _ _ _) => b
  | _ => []
noncomputable def lawScope : Scope := match PySem.Challenge.pw_nu0171_01.main.body.getLast? with
  | some (.FunctionDef _ _ _ _ _ _ sc _ _ _) => sc
  | _ => default
noncomputable abbrev lEnv (L fa : Addr) (cd : Value) : Env := envOfC (Str.ofString "law") lawScope L fa cd
noncomputable abbrev lA (L fa : Addr) (cd : Value) : Around := callerA.deeper (lEnv L fa cd)
noncomputable def LQ (h₀ : Heap) (L : Addr) (s : Shared) (Q : Flow → Shared → Prop) : Prop := ∀ h' tk m' news', Fr h₀ L h' m' → News h₀ L h' news' → Q (.ret (.bool true)) { s with heap := h', toks := tk }
/-- the law from its statement k on, in any state of which P is told -/
noncomputable def Stg (w : World) (k : Nat) (P : Addr → (Str → Option Value) → Led → Prop) : Prop :=
  ∀ (mean : ExcName → Option Value) (mg mb : Str → Option Value) (base h₀ : Heap) (L fa : Addr) (cd : Value) (m : Str → Option Value) (news : Led) (s : Shared) (Q : Flow → Shared → Prop),
    Below callerA base [] h₀ → Fr h₀ L s.heap m → (heapK w.params).In h₀ → News h₀ L s.heap news → Top viewV (looseW viewV []) mean mg mb h₀ → P L m news → LQ h₀ L s Q →
    wpAny (model Pg w) (lA L fa cd) (execs (lawStmts.drop k) (lEnv L fa cd)) Q (fun _ _ => False) s
/-- none of the seven cells -/
noncomputable def OffC (L a : Nat) : Prop := a ≠ L + 1 ∧ a ≠ L + 1 + 1 ∧ a ≠ L + 1 + 1 + 1 ∧ a ≠ L + 1 + 1 + 1 + 1 ∧ a ≠ L + 1 + 1 + 1 + 1 + 1 ∧ a ≠ L + 1 + 1 + 1 + 1 + 1 + 1 ∧ a ≠ L + 1 + 1 + 1 + 1 + 1 + 1 + 1
theorem OffC.of_lt {L a : Nat} (h : L + 1 + 1 + 1 + 1 + 1 + 1 + 1 < a) : OffC L a := by unfold OffC; omega
/-- the tape's own list, beside the tape at tp -/
structure TapeIn (L : Addr) (rest : Led) (tp cl : Addr) (ws : List Value) (ns : List Int) (k : Nat) : Prop where
  hc : (cl, lstO ws k) ∈ rest
  hw : IntsAre ws ns
  h0 : 0 < ns.length
  h60 : ns.length ≤ 60
  htp : OffC L tp
  hoff : ∀ p ∈ rest, p.1 ≠ tp
  hlo : ∀ p ∈ rest, OffC L p.1
theorem TapeIn.hne {L : Addr} {rest : Led} {tp cl : Addr} {ws : List Value} {ns : List Int} {k : Nat} (H : TapeIn L rest tp cl ws ns k) : cl ≠ tp := H.hoff _ H.hc
theorem TapeIn.more {L : Addr} {rest rest' : Led} {tp cl : Addr} {ws : List Value} {ns : List Int} {k : Nat} (H : TapeIn L rest tp cl ws ns k) (s : ∀ p ∈ rest, p ∈ rest') (o : ∀ p ∈ rest', p ∈ rest ∨ (@Ne Nat p.1 tp ∧ OffC L p.1)) : TapeIn L rest' tp cl ws ns k :=
  ⟨s _ H.hc, H.hw, H.h0, H.h60, H.htp, fun p hp => (o p hp).elim (H.hoff p) fun h => h.1, fun p hp => (o p hp).elim (H.hlo p) fun h => h.2⟩
theorem TapeIn.cons {L : Addr} {rest : Led} {tp cl : Addr} {ws : List Value} {ns : List Int} {k : Nat} {a : Nat} {o : Obj} (H : TapeIn L rest tp cl ws ns k) (h1 : a ≠ tp) (h2 : OffC L a) : TapeIn L ((a, o) :: rest) tp cl ws ns k :=
  H.more (fun p hp => List.mem_cons_of_mem _ hp) fun p hp => by
    rcases List.mem_cons.mp hp with rfl | hp
    · exact .inr ⟨h1, h2⟩
    · exact .inl hp
/-- the seven cells, then the tape, then the rest -/
abbrev lawLed (L : Addr) (o1 o2 o3 o4 o5 o6 o7 : Obj) (tp cl : Addr) (at' : Int) (ta : Tok) (n : Nat) (rest : Led) : Led :=
  (L + 1, o1) :: (L + 1 + 1, o2) :: (L + 1 + 1 + 1, o3) :: (L + 1 + 1 + 1 + 1, o4) :: (L + 1 + 1 + 1 + 1 + 1, o5) :: (L + 1 + 1 + 1 + 1 + 1 + 1, o6) :: (L + 1 + 1 + 1 + 1 + 1 + 1 + 1, o7) :: (tp, lstO [.ref cl, .int at' ta] n) :: rest
/-- ahead of the classes -/
inductive P1 (L : Addr) (_m : Str → Option Value) (news : Led) : Prop
  | mk (o1 o2 o3 o4 o5 o6 o7 : Obj) (v2 v3 v4 v5 v6 v7 : Option Value) (tp cl : Addr) (ta : Tok) (n : Nat) (rest : Led) (ws : List Value) (ns : List Int) (k : Nat) (_ : news = lawLed L o1 o2 o3 o4 o5 o6 o7 tp cl 0 ta n rest) (_ : TapeIn L rest tp cl ws ns k) (_ : o1.data = .cell (some (.ref tp))) (_ : o2.data = .cell v2) (_ : o3.data = .cell v3) (_ : o4.data = .cell v4) (_ : o5.data = .cell v5) (_ : o6.data = .cell v6) (_ : o7.data = .cell v7) : P1 L _m news
/-- a list of small ints -/
structure IntsIn (rest : Led) (l : Addr) (ns : List Int) (len : Nat) (lim : Int) : Prop where
  ex : ∃ ws k, (l, lstO ws k) ∈ rest ∧ IntsAre ws ns
  len : ns.length = len
  bnd : ∀ x ∈ ns, 0 ≤ x ∧ x < lim
/-- behind the classes, the attachment classes, the bits -/
inductive P2 (L : Addr) (_m : Str → Option Value) (news : Led) : Prop
  | mk (o1 o2 o3 o4 o5 o6 o7 : Obj) (v5 v6 v7 : Option Value) (tp cl : Addr) (at' : Int) (ta : Tok) (n : Nat) (rest : Led) (ws : List Value) (ns : List Int) (k : Nat) (lc lh : Addr) (b : Int) (tb : Tok) (cs hs : List Int) (_ : news = lawLed L o1 o2 o3 o4 o5 o6 o7 tp cl at' ta n rest) (_ : 0 ≤ at') (_ : at' ≤ 17) (_ : TapeIn L rest tp cl ws ns k) (_ : o1.data = .cell (some (.ref tp))) (_ : o2.data = .cell (some (.ref lc))) (_ : o3.data = .cell (some (.ref lh))) (_ : o4.data = .cell (some (.int b tb))) (_ : o5.data = .cell v5) (_ : o6.data = .cell v6) (_ : o7.data = .cell v7) (_ : IntsIn rest lc cs 8 5) (_ : IntsIn rest lh hs 8 3) (_ : 0 ≤ b) (_ : b < 256) : P2 L _m news
/-- the table of the lists: the entries above zero -/
noncomputable def tabC (cs : List Int) (n : Nat) : List (Int × Int) := (List.range n).filterMap fun i => if 0 < cs.getD i 0 then some ((i : Int), cs.getD i 0) else none
theorem tabC_succ (cs : List Int) (n : Nat) : tabC cs (n + 1) = tabC cs n ++ (if 0 < cs.getD n 0 then [((n : Int), cs.getD n 0)] else []) := by
  unfold tabC
  rw [List.range_succ, List.filterMap_append]
  congr 1
  by_cases h : 0 < cs.getD n 0
  · rw [if_pos h, List.filterMap_cons_some (by rw [if_pos h])]; rfl
  · rw [if_neg h, List.filterMap_cons_none (by rw [if_neg h])]; rfl
theorem tabC_fst (cs : List Int) : ∀ n, ∀ p ∈ tabC cs n, p.1 < n ∧ 0 ≤ p.1 ∧ p.2 = cs.getD p.1.toNat 0 ∧ 0 < p.2
  | 0, p, h => nomatch h
  | n + 1, p, h => by
    rw [tabC_succ] at h
    rcases List.mem_append.mp h with h | h
    · have := tabC_fst cs n p h
      exact ⟨by omega, this.2⟩
    · split at h
      · rw [List.mem_singleton.mp h]; exact ⟨by dsimp only; omega, by dsimp only; omega, by dsimp only; rw [Int.toNat_natCast], by assumption⟩
      · cases h
theorem tabC_nodup (cs : List Int) : ∀ n, ((tabC cs n).map (·.1)).Nodup
  | 0 => List.nodup_nil
  | n + 1 => by
    rw [tabC_succ, List.map_append]
    refine List.nodup_append.mpr ⟨tabC_nodup cs n, ?_, ?_⟩
    · split
      · exact List.nodup_cons.mpr ⟨List.not_mem_nil, List.nodup_nil⟩
      · exact List.nodup_nil
    · intro a ha b hb
      obtain ⟨p, hp, rfl⟩ := List.mem_map.mp ha
      have := (tabC_fst cs n p hp).1
      split at hb
      · simp only [List.map_cons, List.map_nil, List.mem_singleton] at hb; omega
      · cases hb
theorem tabC_len (cs : List Int) (n : Nat) : (tabC cs n).length ≤ n := by
  unfold tabC
  exact Nat.le_trans (List.length_filterMap_le _ _) (by rw [List.length_range]; exact Nat.le_refl _)
theorem look_of_mem {c : List (Int × Int)} {k v d : Int} (hn : (c.map (·.1)).Nodup) (h : (k, v) ∈ c) : kdfLook c k d = v := by
  induction c with
  | nil => cases h
  | cons p r ih =>
    rw [List.map_cons, List.nodup_cons] at hn
    unfold kdfLook
    by_cases e : p.1 = k
    · rw [List.find?_cons_of_pos (by simp [e])]
      rcases List.mem_cons.mp h with h | h
      · rw [← h]; rfl
      · exact absurd (List.mem_map.mpr ⟨_, h, rfl⟩) (by rw [← e] at *; exact hn.1)
    · rw [List.find?_cons_of_neg (by simp [e])]
      rcases List.mem_cons.mp h with h | h
      · rw [← h] at e; exact absurd rfl e
      · exact ih hn.2 h
theorem look_of_none {c : List (Int × Int)} {k d : Int} (h : ∀ p ∈ c, p.1 ≠ k) : kdfLook c k d = d := by
  unfold kdfLook
  rw [List.find?_eq_none.mpr (fun p hp => by simp [h p hp])]
  rfl
/-- what the table tells of a glyph -/
theorem tab_look {cs : List Int} (h : ∀ x ∈ cs, 0 ≤ x) {n : Nat} {g : Int} (h0 : 0 ≤ g) (h1 : g < n) : kdfLook (tabC cs n) g 0 = cs.getD g.toNat 0 := by
  by_cases hp : 0 < cs.getD g.toNat 0
  · refine look_of_mem (tabC_nodup cs n) ?_
    unfold tabC
    exact List.mem_filterMap.mpr ⟨g.toNat, List.mem_range.mpr (by omega), by rw [if_pos hp, Int.toNat_of_nonneg h0]⟩
  · rw [look_of_none fun p hp' e => ?_]
    · by_cases hl : g.toNat < cs.length
      · have := h _ (List.getElem_mem hl)
        rw [List.getD_eq_getElem?_getD, List.getElem?_eq_getElem hl, Option.getD_some] at hp ⊢
        omega
      · rw [List.getD_eq_getElem?_getD, List.getElem?_eq_none (by omega)]; rfl
    · have := tabC_fst cs n p hp'
      rw [e] at this
      omega
/-- behind the classes' ClassDef -/
inductive P3 (w : World) (L : Addr) (_m : Str → Option Value) (news : Led) : Prop
  | mk (o1 o2 o3 o4 o5 o6 o7 : Obj) (v6 v7 : Option Value) (tp cl : Addr) (at' : Int) (ta : Tok) (n : Nat) (rest : Led) (ws : List Value) (ns : List Int) (k : Nat) (lc lh : Addr) (b : Int) (tb : Tok) (cs hs : List Int) (kn : Addr) (_ : news = lawLed L o1 o2 o3 o4 o5 o6 o7 tp cl at' ta n rest) (_ : 0 ≤ at') (_ : at' ≤ 17) (_ : TapeIn L rest tp cl ws ns k) (_ : o1.data = .cell (some (.ref tp))) (_ : o2.data = .cell (some (.ref lc))) (_ : o3.data = .cell (some (.ref lh))) (_ : o4.data = .cell (some (.int b tb))) (_ : o5.data = .cell (some (.ref kn))) (_ : o6.data = .cell v6) (_ : o7.data = .cell v7) (_ : IntsIn rest lc cs 8 5) (_ : IntsIn rest lh hs 8 3) (_ : 0 ≤ b) (_ : b < 256) (_ : ClsAt w rest kn (tabC cs 8)) : P3 w L _m news
/-- behind both -/
inductive P4 (w : World) (L : Addr) (m : Str → Option Value) (news : Led) : Prop
  | mk (o1 o2 o3 o4 o5 o6 o7 : Obj) (v6 v7 : Option Value) (tp cl : Addr) (at' : Int) (ta : Tok) (n : Nat) (rest : Led) (ws : List Value) (ns : List Int) (k : Nat) (lc lh : Addr) (b : Int) (tb : Tok) (cs hs : List Int) (kn ka : Addr) (_ : news = lawLed L o1 o2 o3 o4 o5 o6 o7 tp cl at' ta n rest) (_ : 0 ≤ at') (_ : at' ≤ 17) (_ : TapeIn L rest tp cl ws ns k) (_ : o1.data = .cell (some (.ref tp))) (_ : o2.data = .cell (some (.ref lc))) (_ : o3.data = .cell (some (.ref lh))) (_ : o4.data = .cell (some (.int b tb))) (_ : o5.data = .cell (some (.ref kn))) (_ : o6.data = .cell v6) (_ : o7.data = .cell v7) (_ : IntsIn rest lc cs 8 5) (_ : IntsIn rest lh hs 8 3) (_ : 0 ≤ b) (_ : b < 256) (_ : ClsAt w rest kn (tabC cs 8)) (_ : ClsAt w rest ka (tabC hs 8)) (_ : m (Str.ofString "attach") = some (.ref ka)) : P4 w L m news
theorem IntsIn.mono {rest nx : Led} {l : Addr} {ns : List Int} {len : Nat} {lim : Int} (H : IntsIn rest l ns len lim) (s : ∀ p ∈ rest, p ∈ nx) : IntsIn nx l ns len lim :=
  ⟨let ⟨ws, k, h, i⟩ := H.ex; ⟨ws, k, s _ h, i⟩, H.len, H.bnd⟩
theorem cls_of {w : World} {news : Led} {x dx d : Addr} {es : List DictEntry} {n : Nat} {c : List (Int × Int)} (h1 : (x, instObj 293 dx) ∈ news) (h2 : (dx, dictOf es n) ∈ news) (g1 : getL (Str.ofString "classes") es = some (some (.ref d))) (g2 : getL (Str.ofString "class_of") es = some none) (D : DicAt w news d c) : ClsAt w news x c :=
  let ⟨o, kvs, h3, h4, h5, h6⟩ := D.ex
  ⟨dx, d, o, kvs, es, n, h1, h2, g1, g2, h3, h4, h5, h6⟩
theorem DicAt.one {w : World} {news : Led} {d : Addr} {o : Obj} {c : List (Int × Int)} (D : DicAt w [(d, o)] d c) (h : (d, o) ∈ news) : DicAt w news d c := D.mono fun p hp => by rw [List.mem_singleton.mp hp]; exact h
theorem updF_again {d : Addr} {o : Obj} {l : Led} {g : Obj → Led} (U : UpdF d o l g) (o' : Obj) : UpdF d o' (g o') g := by
  induction U with
  | head h => exact .head h
  | tail h _ ih => exact .tail h ih
theorem updF_self {d : Addr} {o : Obj} {l : Led} {g : Obj → Led} (U : UpdF d o l g) : g o = l := by
  induction U with
  | head h => rfl
  | tail h _ ih => dsimp only; rw [ih]
theorem comp_draw {prog : Program} {w : World} {A : Around} {h₀ : Heap} {L : Addr} {m : Str → Option Value} {env : Env} {p1 p2 p3 p4 : Pos} {z : Nat} {lim : Int} {x : Str} {scope : Scope} {cl : List (Str × Addr)} {s : Shared} {S : Led → Prop} {P : Nat → Value → Prop} {Fin : List Value → Led → Prop} {N : Nat} {news : Led}
    {tp clA : Addr} {a0 : Int} {ta : Tok} {n : Nat} {g : Obj → Led} (U : UpdF tp (lstO [.ref clA, .int a0 ta] n) news g)
    (turn : ∀ (i : Nat) ys ta' I oI C oC D (m₂ : Str → Option Value) h tk (E' : Value → Shared → Prop), i < N → LCg.NsObj oC m₂ → Fr h₀ L h m → News h₀ L h ((I, oI) :: (C, oC) :: (D, LCg.lst ys) :: g (lstO [.ref clA, .int (a0 + i) ta'] n)) → LCg.Off3 I C D (g (lstO [.ref clA, .int (a0 + i) ta'] n)) → ((@Ne Nat I C) ∧ (@Ne Nat I D) ∧ (@Ne Nat C D)) → 0 ≤ (i : Int) → (i : Int) < N →
      wpAny (model prog w) A (eval (.Call (.Name (Str.ofString "_law_draw") p1) [.Name (Str.ofString "tape") p2, .Constant (.int lim) z p3] [] p4) (compEnvC scope cl C env)) (LCg.CompEnd h₀ L m { s with heap := h, toks := tk } I oI C oC D (LCg.lst ys) S (fun y nw => ∃ v t ta'', y = .int v t ∧ 0 ≤ v ∧ v < lim ∧ nw = g (lstO [.ref clA, .int (a0 + i + 1) ta''] n))) E' { s with heap := h, toks := tk })
    (fin : ∀ ys vs ta', IntsAre ys vs → vs.length = N → (∀ v ∈ vs, 0 ≤ v ∧ v < lim) → Fin ys (g (lstO [.ref clA, .int (a0 + N) ta'] n))) :
    LCg.CompRest prog w A h₀ L m env (.Call (.Name (Str.ofString "_law_draw") p1) [.Name (Str.ofString "tape") p2, .Constant (.int lim) z p3] [] p4) x scope cl s S P Fin N 0 [] news := by
  refine comp_ind (n := N) (fun i ys nw => ∃ vs ta', nw = g (lstO [.ref clA, .int (a0 + i) ta'] n) ∧ IntsAre ys vs ∧ vs.length = i ∧ ∀ v ∈ vs, 0 ≤ v ∧ v < lim) ?_ ?_ N 0 [] news (by omega) ⟨[], ta, ?_, .nil, rfl, fun v h => nomatch h⟩
  · rintro ys nw ⟨vs, ta', rfl, h1, h2, h3⟩
    exact fin ys vs ta' h1 h2 h3
  · rintro i ys nw v I oI C oC D m₂ h tk E' hi - ⟨vs, ta', rfl, h1, h2, h3⟩ hC hx F Nn o3 ne
    refine wpAny_mono (turn i ys ta' I oI C oC D m₂ h tk E' hi hC F Nn o3 ne (by omega) (by omega)) (fun y s₂ q => ?_) fun _ _ e => e
    obtain ⟨h', tk', nw, rfl, F', N', off, hS, v', t, ta'', rfl, b1, b2, rfl⟩ := q
    refine ⟨h', tk', _, rfl, F', N', off, hS, vs ++ [v'], ta'', ?_, ints_snoc h1 v' t, by rw [List.length_append, h2]; rfl, fun v hv => ?_⟩
    · rw [show a0 + ((i : Nat) : Int) + 1 = a0 + ((i + 1 : Nat) : Int) by omega]
    · rcases List.mem_append.mp hv with hv | hv
      · exact h3 v hv
      · rw [List.mem_singleton.mp hv]; exact ⟨b1, b2⟩
  · have e : a0 + ((0 : Nat) : Int) = a0 := by omega
    rw [e]
    exact (updF_self U).symm
theorem row16_2 : True := by
  k_with "W:execs cons" => ((k_here; k_extra "my stage"))
  exact trivial
theorem off3_I {I C D : Addr} {l : Led} (h : LCg.Off3 I C D l) : ∀ p ∈ l, p.1 ≠ I := fun p hp => (h.mem p hp).1

theorem calm17 : True := by
  w_top off
  exact trivial
theorem row17_1 : True := by
  k_with "W:subscriptTail Name Name ref int" => (walk_at "subscriptTail")
  exact trivial
local macro_rules | `(tactic| k_ne) => `(tactic| k_extra "k_ne")
theorem row17_2 : True := by
  k_with "k_ne" => ((refine neN ?_; (try dsimp only); first | assumption | (refine Ne.symm ?_; assumption) | (simp; done) | exact And.left (by assumption) | exact And.left (And.right (by assumption)) | exact And.left (And.right (And.right (by assumption))) | exact And.left (And.right (And.right (And.right (by assumption)))) | exact And.left (And.right (And.right (And.right (And.right (by assumption))))) | exact And.left (And.right (And.right (And.right (And.right (And.right (by assumption)))))) | exact And.left (And.right (And.right (And.right (And.right (And.right (And.right (by assumption))))))) | exact And.left (And.right (And.right (And.right (And.right (And.right (And.right (And.right (by assumption)))))))) | exact And.left (And.right (And.right (And.right (And.right (And.right (And.right (And.right (And.right (by assumption))))))))) | exact Ne.symm (And.left (by assumption)) | exact Ne.symm (And.left (And.right (by assumption))) | exact Ne.symm (And.left (And.right (And.right (by assumption)))) | exact Ne.symm (And.left (And.right (And.right (And.right (by assumption))))) | exact Ne.symm (And.left (And.right (And.right (And.right (And.right (by assumption)))))) | exact Ne.symm (And.left (And.right (And.right (And.right (And.right (And.right (by assumption))))))) | exact Ne.symm (And.left (And.right (And.right (And.right (And.right (And.right (And.right (by assumption)))))))) | exact Ne.symm (And.left (And.right (And.right (And.right (And.right (And.right (And.right (And.right (by assumption))))))))) | exact Ne.symm (And.left (And.right (And.right (And.right (And.right (And.right (And.right (And.right (And.right (by assumption)))))))))) | omega))
  exact trivial
theorem TapeIn.offs {L : Addr} {rest : Led} {tp cl : Addr} {ws : List Value} {ns : List Int} {k : Nat} (H : TapeIn L rest tp cl ws ns k) : (∀ p ∈ rest, p.1 ≠ tp) ∧ (∀ p ∈ rest, p.1 ≠ L + 1) ∧ (∀ p ∈ rest, p.1 ≠ L + 1 + 1) ∧ (∀ p ∈ rest, p.1 ≠ L + 1 + 1 + 1) ∧ (∀ p ∈ rest, p.1 ≠ L + 1 + 1 + 1 + 1) ∧ (∀ p ∈ rest, p.1 ≠ L + 1 + 1 + 1 + 1 + 1) ∧ (∀ p ∈ rest, p.1 ≠ L + 1 + 1 + 1 + 1 + 1 + 1) ∧ (∀ p ∈ rest, p.1 ≠ L + 1 + 1 + 1 + 1 + 1 + 1 + 1) :=
  ⟨H.hoff, fun p h => (H.hlo p h).1, fun p h => (H.hlo p h).2.1, fun p h => (H.hlo p h).2.2.1, fun p h => (H.hlo p h).2.2.2.1, fun p h => (H.hlo p h).2.2.2.2.1, fun p h => (H.hlo p h).2.2.2.2.2.1, fun p h => (H.hlo p h).2.2.2.2.2.2⟩
theorem row17_3 : True := by
  k_with "W:call ref" => ((k_here; (with_reducible show wpAny _ _ (call (Value.ref 394) _) _ _ _); k_dflt (refine' draw_use ?k1 ?k2 ?k3 ?k4 ?k5 ?kK ?kd ?ku ?kU ?kc (TapeIn.hne ?kT) (TapeIn.hw ?kT) (TapeIn.h0 ?kT) (TapeIn.h60 ?kT) ?ka ?kb ?kl ?km ?_; (case kT => k_asm); tb_start; (case kU => k_updF); (case kc => k_mem); (case ka => omega); (case kb => omega); (case kl => decide); (case km => decide); k_whole); intro x1ᵣ x2ᵣ x3ᵣ x4ᵣ x5ᵣ x6ᵣ x7ᵣ x8ᵣ x9ᵣ; (try dsimp only at x9ᵣ); (try k_sweep); (try k_fold)))
  exact trivial

theorem comp_drawT {prog : Program} {w : World} {A : Around} {h₀ : Heap} {L : Addr} {m : Str → Option Value} {env : Env} {p1 p2 p3 p4 : Pos} {z : Nat} {lim : Int} {x : Str} {scope : Scope} {cl : List (Str × Addr)} {s : Shared} {S : Led → Prop} {P : Nat → Value → Prop} {Fin : List Value → Led → Prop} {N : Nat} {news : Led} {rest : Led} {ws : List Value} {ns : List Int} {k : Nat}
    {tp clA : Addr} {a0 : Int} {ta : Tok} {n : Nat} {g : Obj → Led} (_ : TapeIn L rest tp clA ws ns k) (U : UpdF tp (lstO [.ref clA, .int a0 ta] n) news g)
    (turn : ∀ (i : Nat) ys ta' I oI C oC D (m₂ : Str → Option Value) h tk (E' : Value → Shared → Prop), i < N → LCg.NsObj oC m₂ → Fr h₀ L h m → News h₀ L h ((I, oI) :: (C, oC) :: (D, LCg.lst ys) :: g (lstO [.ref clA, .int (a0 + i) ta'] n)) → LCg.Off3 I C D (g (lstO [.ref clA, .int (a0 + i) ta'] n)) → ((@Ne Nat I C) ∧ (@Ne Nat I D) ∧ (@Ne Nat C D)) → 0 ≤ (i : Int) → (i : Int) < N →
      wpAny (model prog w) A (eval (.Call (.Name (Str.ofString "_law_draw") p1) [.Name (Str.ofString "tape") p2, .Constant (.int lim) z p3] [] p4) (compEnvC scope cl C env)) (LCg.CompEnd h₀ L m { s with heap := h, toks := tk } I oI C oC D (LCg.lst ys) S (fun y nw => ∃ v t ta'', y = .int v t ∧ 0 ≤ v ∧ v < lim ∧ nw = g (lstO [.ref clA, .int (a0 + i + 1) ta''] n))) E' { s with heap := h, toks := tk })
    (fin : ∀ ys vs ta', IntsAre ys vs → vs.length = N → (∀ v ∈ vs, 0 ≤ v ∧ v < lim) → Fin ys (g (lstO [.ref clA, .int (a0 + N) ta'] n))) :
    LCg.CompRest prog w A h₀ L m env (.Call (.Name (Str.ofString "_law_draw") p1) [.Name (Str.ofString "tape") p2, .Constant (.int lim) z p3] [] p4) x scope cl s S P Fin N 0 [] news := comp_draw U turn fin
theorem row17_4 : True := by
  k_with "W:my cs" => ((k_here; k_dflt (refine' LCg.CompSrc.range (n := 8) ?q1 ?q2 ?q3 ?q4 ?q5 ?q6 ?q7 ?_; (case q1 => rfl); (case q2 => k_asm); (case q3 => k_asm); (case q4 => assumption); (case q5 => decide); (case q6 => rfl); (case q7 => exact Nat.le_of_ble_eq_true rfl)); intro x1ᵣ; k_dflt (refine' comp_drawT ?kT ?kU (fun x2ᵣ x3ᵣ x4ᵣ x5ᵣ x6ᵣ x7ᵣ x8ᵣ x9ᵣ x10ᵣ x11ᵣ x12ᵣ x13ᵣ x14ᵣ x15ᵣ x16ᵣ x17ᵣ x18ᵣ x19ᵣ x20ᵣ x21ᵣ => ?_) (fun x3ᵣ x22ᵣ x4ᵣ x23ᵣ x24ᵣ x25ᵣ => ?_); (case kT => k_asm); (case kU => k_updF)); (case' _ => ((try simp only [LCg.Off3] at x18ᵣ); ((have x26ᵣ := x19ᵣ); (rcases x26ᵣ with ⟨_, _, _⟩)); ((have x27ᵣ := x18ᵣ); first | (rcases x27ᵣ with ⟨⟨_, _, _⟩, ⟨_, _, _⟩, ⟨_, _, _⟩, ⟨_, _, _⟩, ⟨_, _, _⟩, ⟨_, _, _⟩, ⟨_, _, _⟩, ⟨_, _, _⟩, ⟨_, _, _⟩, _⟩) | (rcases x27ᵣ with ⟨⟨_, _, _⟩, ⟨_, _, _⟩, ⟨_, _, _⟩, ⟨_, _, _⟩, ⟨_, _, _⟩, ⟨_, _, _⟩, ⟨_, _, _⟩, ⟨_, _, _⟩, _⟩) | skip); (try dsimp only at x17ᵣ); k_sweep; (try k_fold)))))
  exact trivial
theorem row17_5 : True := by
  k_with "W:CompSrc" => (walk_at "my cs")
  exact trivial
theorem row17_6 : True := by
  k_with "W:call ref" => ((k_here; (with_reducible first | show wpAny _ _ (call (Value.ref 293) _) _ _ _ | show wpAny _ _ (call (Value.ref 335) _) _ _ _ | show wpAny _ _ (call (Value.ref 383) _) _ _ _ | show wpAny _ _ (call (Value.ref 200) _) _ _ _); k_dflt (refine' call_cls ?k1 ?k2 ?k3 ?k4 ?k5 ?k6 ?_; (case k1 => k_asm); (case k2 => k_asm); (case k3 => k_asm); (case k4 => k_is); (case k5 => k_is); (case k6 => k_is); k_whole; intro x1ᵣ x2ᵣ x3ᵣ x4ᵣ x5ᵣ x6ᵣ x7ᵣ; (try k_lt x6ᵣ); (try k_lt2 x7ᵣ); (try k_sweep); k_enter)))
  exact trivial

theorem calm18 : True := by
  w_top off
  exact trivial
theorem PairsL.none {ys : List Value} : PairsL ([] : Led) [] [] := .nil
/-- a comprehension that tells the pairs of a list's entries above zero -/
theorem comp_tab {prog : Program} {w : World} {A : Around} {h₀ : Heap} {L : Addr} {m : Str → Option Value} {env : Env} {ct elt : Expr} {x : Str} {scope : Scope} {cll : List (Str × Addr)} {s : Shared} {S : Led → Prop} {Fin : List Value → Led → Prop}
    {tp cl lc : Addr} {ws vs : List Value} {ns cs : List Int} {k kl : Nat} {rest : Led} {g : Led → Led} (HT : TapeIn L rest tp cl ws ns k) (hm : (lc, lstO vs kl) ∈ rest) (_ : IntsAre vs cs) (_ : cs.length = 8)
    (turn : ∀ (i : Nat) ys ti r I oI C oC D (m₂ : Str → Option Value) h tk (E' : Value → Shared → Prop), i < 8 → LCg.NsObj oC m₂ → m₂ x = some (.int (i : Int) ti) → Fr h₀ L h m → News h₀ L h ((I, oI) :: (C, oC) :: (D, LCg.lst ys) :: g r) → LCg.Off3 I C D (g r) → ((@Ne Nat I C) ∧ (@Ne Nat I D) ∧ (@Ne Nat C D)) → TapeIn L r tp cl ws ns k → (lc, lstO vs kl) ∈ r → 0 ≤ (i : Int) → (i : Int) < cs.length →
      wpAny (model prog w) A (isTrue ct (compEnvC scope cll C env) (eval ct (compEnvC scope cll C env))) (fun ok s' => if ok = true then
        wpAny (model prog w) A (eval elt (compEnvC scope cll C env)) (LCg.CompEnd h₀ L m { s with heap := h, toks := tk } I oI C oC D (LCg.lst ys) S (fun y nw => 0 < cs.getD i 0 ∧ ∃ t j u1 u2, y = .ref t ∧ nw = g ((t, tupO [.int i u1, .int (cs.getD i 0) u2] j) :: r) ∧ @Ne Nat t tp ∧ OffC L t)) E' s'
        else LCg.CompEnd h₀ L m { s with heap := h, toks := tk } I oI C oC D (LCg.lst ys) S (fun _ nw => ¬ 0 < cs.getD i 0 ∧ nw = g r) Value.none s') E' { s with heap := h, toks := tk })
    (fin : ∀ ys r, (∀ p ∈ rest, p ∈ r) → TapeIn L r tp cl ws ns k → PairsL r ys (tabC cs 8) → Fin ys (g r)) :
    LCt.CompRestT prog w A h₀ L m env ct elt x scope cll s S (fun i v => ∃ t, v = .int (0 + (i : Int)) t) Fin 8 0 [] (g rest) := by
  refine comp_indT (n := 8) (fun i ys nw => ∃ r, nw = g r ∧ (∀ p ∈ rest, p ∈ r) ∧ TapeIn L r tp cl ws ns k ∧ PairsL r ys (tabC cs i)) ?_ ?_ 8 0 [] _ (by omega) ⟨rest, rfl, fun _ h => h, HT, .nil⟩
  · rintro ys nw ⟨r, rfl, h1, h2, h3⟩
    exact fin ys r h1 h2 h3
  · rintro i ys nw v I oI C oC D m₂ h tk E' hi ⟨ti, rfl⟩ ⟨r, rfl, h1, h2, h3⟩ hC hx F N o3 ne
    rw [Int.zero_add] at hx
    refine wpAny_mono (turn i ys ti r I oI C oC D m₂ h tk E' hi hC hx F N o3 ne h2 (h1 _ hm) (by omega) (by omega)) (fun b s₂ q => ?_) fun _ _ e => e
    cases b with
    | true =>
      simp only [if_true] at q ⊢
      refine wpAny_mono q (fun y s₃ q => ?_) fun _ _ e => e
      obtain ⟨h', tk', nw, rfl, F', N', off, hS, hp, t, j, u1, u2, rfl, rfl, n1, n2⟩ := q
      refine ⟨h', tk', _, rfl, F', N', off, hS, _, rfl, fun p hp => List.mem_cons_of_mem _ (h1 p hp), h2.cons n1 n2, ?_⟩
      rw [tabC_succ, if_pos hp]
      exact (h3.mono fun p hp => List.mem_cons_of_mem _ hp).snoc List.mem_cons_self
    | false =>
      simp only [Bool.false_eq_true, if_false] at q ⊢
      obtain ⟨h', tk', nw, rfl, F', N', off, hS, hp, rfl⟩ := q
      refine ⟨h', tk', _, rfl, F', N', off, hS, r, rfl, h1, h2, ?_⟩
      rw [tabC_succ, if_neg hp, List.append_nil]
      exact h3
theorem row18_1 : True := by
  k_with "W:my ct" => ((k_dflt (refine' LCt.CompSrcT.range (n := 8) ?q1 ?q2 ?q3 ?q4 ?q5 ?q6 ?q7 ?_; (case q1 => rfl); (case q2 => k_asm); (case q3 => k_asm); (case q4 => assumption); (case q5 => decide); (case q6 => rfl); (case q7 => exact Nat.le_of_ble_eq_true rfl)); intro x1ᵣ))
  exact trivial
theorem row18_2 : True := by
  k_with "W:CompSrcT" => ((k_here; k_extra "my ct"))
  exact trivial

theorem tab_true {h₀ : Heap} {L I C D t tp cl : Addr} {m : Str → Option Value} {s₁ : Shared} {oI oC : Obj} {ys : List Value} {a v : Int} {u1 u2 : Tok} {o1 o2 o3 o4 o5 o6 o7 : Obj} {at' : Int} {ta : Tok} {n j : Nat} {r : Led} {h' : Heap} {tk : Nat}
    (F : Fr h₀ L h' m) (N : News h₀ L h' ((t, tupO [.int a u1, .int v u2] j) :: (I, oI) :: (C, oC) :: (D, LCg.lst ys) :: lawLed L o1 o2 o3 o4 o5 o6 o7 tp cl at' ta n r)) (off : LCg.Off3 I C D (lawLed L o1 o2 o3 o4 o5 o6 o7 tp cl at' ta n r))
    (lt : AllLt t ((I, oI) :: (C, oC) :: (D, LCg.lst ys) :: lawLed L o1 o2 o3 o4 o5 o6 o7 tp cl at' ta n r)) (hp : 0 < v) :
    LCg.CompEnd h₀ L m s₁ I oI C oC D (LCg.lst ys) (fun _ => True) (fun y nw => 0 < v ∧ ∃ t j u1 u2, y = .ref t ∧ nw = lawLed L o1 o2 o3 o4 o5 o6 o7 tp cl at' ta n ((t, tupO [.int a u1, .int v u2] j) :: r) ∧ @Ne Nat t tp ∧ OffC L t) (.ref t) { s₁ with heap := h', toks := tk } := by
  obtain ⟨l1, l2, l3, l4, l5, l6, l7, l8, l9, l10, l11, l12⟩ := lt
  obtain ⟨f1, f2, f3, f4, f5, f6, f7, f8, f9⟩ := off
  refine LCg.CompEnd.intro F N (lawLed L o1 o2 o3 o4 o5 o6 o7 tp cl at' ta n ((t, tupO [.int a u1, .int v u2] j) :: r)) ?_ ⟨f1, f2, f3, f4, f5, f6, f7, f8, ⟨Nat.ne_of_gt l1, Nat.ne_of_gt l2, Nat.ne_of_gt l3⟩, f9⟩ trivial ⟨hp, t, j, u1, u2, rfl, rfl, Nat.ne_of_gt l11, OffC.of_lt l10⟩
  repeat (first | refine List.forall_mem_cons.mpr ⟨by k_mem, ?_⟩ | exact (fun p hp => by simp only [List.mem_cons, hp, or_true]))
theorem tab_false {h₀ : Heap} {L I C D tp cl : Addr} {m : Str → Option Value} {s₁ : Shared} {oI oC oD : Obj} {v : Int} {o1 o2 o3 o4 o5 o6 o7 : Obj} {at' : Int} {ta : Tok} {n : Nat} {r : Led} {h' : Heap} {tk : Nat}
    (F : Fr h₀ L h' m) (N : News h₀ L h' ((I, oI) :: (C, oC) :: (D, oD) :: lawLed L o1 o2 o3 o4 o5 o6 o7 tp cl at' ta n r)) (off : LCg.Off3 I C D (lawLed L o1 o2 o3 o4 o5 o6 o7 tp cl at' ta n r)) (hp : ¬ 0 < v) :
    LCg.CompEnd h₀ L m s₁ I oI C oC D oD (fun _ => True) (fun _ nw => ¬ 0 < v ∧ nw = lawLed L o1 o2 o3 o4 o5 o6 o7 tp cl at' ta n r) Value.none { s₁ with heap := h', toks := tk } :=
  LCg.CompEnd.intro F N _ (fun _ h => h) off trivial ⟨hp, rfl⟩
theorem row18_3 : True := by
  k_with "W:call type:dict" => ((k_here; k_dflt (refine' dict_of_pairs ?k1 ?k2 ?k3 ?k4 ?k5 (PairsL.mono ?k6 ?k6s) ?k7 ?k8 ?_; (case k1 => k_asm); (case k2 => k_asm); (case k3 => exact Top.nolimit (by assumption)); (case k4 => rfl); (case k5 => k_mem); (case k6 => assumption); (case k6s => exact (fun p hp => by simp only [List.mem_cons, hp, or_true])); (case k7 => exact tabC_nodup _ _); (case k8 => exact Nat.le_trans (tabC_len _ _) (by decide)); k_whole); intro x1ᵣ x2ᵣ x3ᵣ x4ᵣ x5ᵣ x6ᵣ x7ᵣ x8ᵣ; (try k_lt x7ᵣ); (try k_sweep); (try k_fold)))
  exact trivial


theorem calm19 : True := by
  w_top off
  exact trivial
/-- a comprehension that keeps the ints of a range that pass a test -/
theorem comp_flt {prog : Program} {w : World} {A : Around} {h₀ : Heap} {L : Addr} {m : Str → Option Value} {env : Env} {ct elt : Expr} {x : Str} {scope : Scope} {cll : List (Str × Addr)} {s : Shared} {S : Led → Prop} {Fin : List Value → Led → Prop} {n : Nat} {news : Led} (p : Nat → Bool)
    (turn : ∀ (i : Nat) ys ti I oI C oC D (m₂ : Str → Option Value) h tk (E' : Value → Shared → Prop), i < n → LCg.NsObj oC m₂ → m₂ x = some (.int (i : Int) ti) → Fr h₀ L h m → News h₀ L h ((I, oI) :: (C, oC) :: (D, LCg.lst ys) :: news) → LCg.Off3 I C D news → ((@Ne Nat I C) ∧ (@Ne Nat I D) ∧ (@Ne Nat C D)) → 0 ≤ (i : Int) → (i : Int) < (n : Int) →
      wpAny (model prog w) A (isTrue ct (compEnvC scope cll C env) (eval ct (compEnvC scope cll C env))) (fun ok s' => if ok = true then
        wpAny (model prog w) A (eval elt (compEnvC scope cll C env)) (LCg.CompEnd h₀ L m { s with heap := h, toks := tk } I oI C oC D (LCg.lst ys) S (fun y nw => p i = true ∧ nw = news ∧ ∃ t, y = .int (i : Int) t)) E' s'
        else LCg.CompEnd h₀ L m { s with heap := h, toks := tk } I oI C oC D (LCg.lst ys) S (fun _ nw => p i = false ∧ nw = news) Value.none s') E' { s with heap := h, toks := tk })
    (fin : ∀ ys, IntsAre ys (((List.range n).filter p).map Int.ofNat) → Fin ys news) :
    LCt.CompRestT prog w A h₀ L m env ct elt x scope cll s S (fun i v => ∃ t, v = .int (0 + (i : Int)) t) Fin n 0 [] news := by
  refine comp_indT (n := n) (fun i ys nw => nw = news ∧ IntsAre ys (((List.range i).filter p).map Int.ofNat)) ?_ ?_ n 0 [] _ (by omega) ⟨rfl, .nil⟩
  · rintro ys nw ⟨rfl, h⟩
    exact fin ys h
  · rintro i ys nw v I oI C oC D m₂ h tk E' hi ⟨ti, rfl⟩ ⟨rfl, hj⟩ hC hx F N o3 ne
    rw [Int.zero_add] at hx
    refine wpAny_mono (turn i ys ti I oI C oC D m₂ h tk E' hi hC hx F N o3 ne (by omega) (by omega)) (fun b s₂ q => ?_) fun _ _ e => e
    cases b with
    | true =>
      simp only [if_true] at q ⊢
      refine wpAny_mono q (fun y s₃ q => ?_) fun _ _ e => e
      obtain ⟨h', tk', nw, rfl, F', N', off, hS, hp, rfl, t, rfl⟩ := q
      refine ⟨h', tk', _, rfl, F', N', off, hS, rfl, ?_⟩
      rw [List.range_succ, List.filter_append, List.map_append, List.filter_cons_of_pos hp]
      exact ints_snoc hj _ _
    | false =>
      simp only [Bool.false_eq_true, if_false] at q ⊢
      obtain ⟨h', tk', nw, rfl, F', N', off, hS, hp, rfl⟩ := q
      refine ⟨h', tk', _, rfl, F', N', off, hS, rfl, ?_⟩
      rw [List.range_succ, List.filter_append, List.map_append, List.filter_cons_of_neg (by rw [hp]; exact Bool.false_ne_true), List.filter_nil, List.map_nil, List.append_nil]
      exact hj
/-- the bits of an int below 256 -/
noncomputable def bitP (b : Int) (i : Nat) : Bool := decide ((b.fdiv (2 ^ i)).fmod 2 = 1)
noncomputable def bitsL (b : Int) : List Int := ((List.range 8).filter (bitP b)).map Int.ofNat
theorem bitsL_len (b : Int) : (bitsL b).length ≤ 8 := by
  unfold bitsL
  rw [List.length_map]
  exact Nat.le_trans (List.length_filter_le _ _) (by rw [List.length_range]; exact Nat.le_refl _)
theorem bitsL_sorted (b : Int) : (bitsL b).Pairwise (· < ·) := by
  unfold bitsL
  refine List.Pairwise.map _ (fun a b h => Int.ofNat_lt.mpr h) ?_
  exact List.Pairwise.filter _ List.pairwise_lt_range
theorem row19_1 : True := by
  k_with "W:CompSrcT" => ((k_here; k_extra "my cf"))
  exact trivial
/-- ahead of the Gdef -/
inductive P5 (w : World) (L : Addr) (m : Str → Option Value) (news : Led) : Prop
  | mk (o1 o2 o3 o4 o5 o6 o7 : Obj) (v6 v7 : Option Value) (tp cl : Addr) (at' : Int) (ta : Tok) (n : Nat) (rest : Led) (ws : List Value) (ns : List Int) (k : Nat) (lc lh : Addr) (b : Int) (tb : Tok) (cs hs : List Int) (kn ka lm : Addr) (vm : List Value) (km : Nat) (_ : news = lawLed L o1 o2 o3 o4 o5 o6 o7 tp cl at' ta n rest) (_ : 0 ≤ at') (_ : at' ≤ 17) (_ : TapeIn L rest tp cl ws ns k) (_ : o1.data = .cell (some (.ref tp))) (_ : o2.data = .cell (some (.ref lc))) (_ : o3.data = .cell (some (.ref lh))) (_ : o4.data = .cell (some (.int b tb))) (_ : o5.data = .cell (some (.ref kn))) (_ : o6.data = .cell v6) (_ : o7.data = .cell v7) (_ : IntsIn rest lc cs 8 5) (_ : IntsIn rest lh hs 8 3) (_ : 0 ≤ b) (_ : b < 256) (_ : ClsAt w rest kn (tabC cs 8)) (_ : ClsAt w rest ka (tabC hs 8)) (_ : (lm, lstO vm km) ∈ rest) (_ : IntsAre vm (bitsL b)) (_ : m (Str.ofString "attach") = some (.ref ka)) (_ : m (Str.ofString "marks") = some (.ref lm)) : P5 w L m news
theorem fr_put {h₀ h : Heap} {L : Addr} {m : Str → Option Value} {y : Str} {v : Value} (F : Fr h₀ L h m) (e : m y = some v) : Fr h₀ L h (fun z => if z = y then some v else m z) := by
  have : (fun z => if z = y then some v else m z) = m := by
    funext z
    by_cases h : z = y
    · rw [if_pos h, h, e]
    · rw [if_neg h]
  rw [this]; exact F
theorem tuple_lst {prog : Program} {w : World} {A : Around} {E : Value → Shared → Prop} {s : Shared} {h₀ : Heap} {L : Addr} {m : Str → Option Value} {news : Led} {l : Addr} {vs : List Value} {k : Nat} {Q : Value → Shared → Prop} (F : Fr h₀ L s.heap m) (N : News h₀ L s.heap news) (hm : (l, lstO vs k) ∈ news) (hz : vs.length ≤ 100)
    (h : ∀ D h', Fr h₀ L h' m → News h₀ L h' ((D, tupO vs 0) :: news) → (∀ p ∈ news, p.1 < D) → Q (.ref D) { s with heap := h' }) : wpAny (model prog w) A (call (.type "tuple") [.ref l]) Q E s :=
  kde_tupleOf F N (News.isList N hm) (by rw [List.size_toArray]; omega) (by simp) h
theorem bits_few {vs : List Value} {b : Int} (h : IntsAre vs (bitsL b)) : vs.length ≤ 100 := by
  rw [h.length]
  have := bitsL_len b
  omega
theorem row19_2 : True := by
  k_with "W:call type:tuple" => ((k_here; (with_reducible show wpAny _ _ (call (Value.type _) [Value.ref _]) _ _ _); k_dflt (refine' tuple_lst ?k1 ?k2 ?k3 ?k4 ?_; (case k1 => k_asm); (case k2 => k_asm); (case k3 => k_mem); (case k4 => first | exact bits_few (by assumption) | k_asm); k_whole); intro x1ᵣ x2ᵣ x3ᵣ x4ᵣ x5ᵣ; (try k_lt x5ᵣ); (try k_sweep)))
  exact trivial

theorem calm20 : True := by
  w_top off
  exact trivial
theorem TapeIn.app {L : Addr} {rest : Led} {tp cl : Addr} {ws : List Value} {ns : List Int} {k : Nat} (H : TapeIn L rest tp cl ws ns k) : ∀ pre : Led, (∀ p ∈ pre, @Ne Nat p.1 tp ∧ OffC L p.1) → TapeIn L (pre ++ rest) tp cl ws ns k
  | [], _ => H
  | _ :: pre, h => (TapeIn.app H pre fun p hp => h p (List.mem_cons_of_mem _ hp)).cons (h _ List.mem_cons_self).1 (h _ List.mem_cons_self).2
theorem swap_app {α : Type} (C pre r : List α) : ∀ p ∈ C ++ (pre ++ r), p ∈ pre ++ (C ++ r) := fun p hp => by
  rcases List.mem_append.mp hp with h | h
  · exact List.mem_append.mpr (.inr (List.mem_append.mpr (.inl h)))
  · rcases List.mem_append.mp h with h | h
    · exact List.mem_append.mpr (.inl h)
    · exact List.mem_append.mpr (.inr (List.mem_append.mpr (.inr h)))
theorem fold_led {h₀ : Heap} {L : Addr} {h : Heap} {o1 o2 o3 o4 o5 o6 o7 : Obj} {tp cl : Addr} {at' : Int} {ta : Tok} {n : Nat} {rest : Led} {ws : List Value} {ns : List Int} {k : Nat} (pre : Led) (HT : TapeIn L rest tp cl ws ns k)
    (N : News h₀ L h (pre ++ lawLed L o1 o2 o3 o4 o5 o6 o7 tp cl at' ta n rest)) (off : ∀ p ∈ pre, @Ne Nat p.1 tp ∧ OffC L p.1) :
    News h₀ L h (lawLed L o1 o2 o3 o4 o5 o6 o7 tp cl at' ta n (pre ++ rest)) ∧ TapeIn L (pre ++ rest) tp cl ws ns k ∧ ∀ p ∈ rest, p ∈ pre ++ rest := by
  exact ⟨cb_drop N (swap_app [(L + 1, o1), (L + 1 + 1, o2), (L + 1 + 1 + 1, o3), (L + 1 + 1 + 1 + 1, o4), (L + 1 + 1 + 1 + 1 + 1, o5), (L + 1 + 1 + 1 + 1 + 1 + 1, o6), (L + 1 + 1 + 1 + 1 + 1 + 1 + 1, o7), (tp, lstO [.ref cl, .int at' ta] n)] pre rest), HT.app pre off, fun p hp => List.mem_append.mpr (.inr hp)⟩
theorem off_lt {L tp a : Nat} (h : L + 1 + 1 + 1 + 1 + 1 + 1 + 1 < a) (h2 : tp < a) : @Ne Nat a tp ∧ OffC L a := ⟨Nat.ne_of_gt h2, OffC.of_lt h⟩
theorem lt_nat {a b : Addr} (h : a < b) : @LT.lt Nat _ a b := h
/-- behind the Gdef -/
inductive P6 (w : World) (L : Addr) (m : Str → Option Value) (news : Led) : Prop
  | mk (o1 o2 o3 o4 o5 o6 o7 : Obj) (v6 v7 : Option Value) (tp cl : Addr) (at' : Int) (ta : Tok) (n : Nat) (rest : Led) (ws : List Value) (ns : List Int) (k : Nat) (lc lh : Addr) (b : Int) (tb : Tok) (cs hs : List Int) (kn lm : Addr) (vm : List Value) (km : Nat) (gd : Addr) (_ : news = lawLed L o1 o2 o3 o4 o5 o6 o7 tp cl at' ta n rest) (_ : 0 ≤ at') (_ : at' ≤ 17) (_ : TapeIn L rest tp cl ws ns k) (_ : o1.data = .cell (some (.ref tp))) (_ : o2.data = .cell (some (.ref lc))) (_ : o3.data = .cell (some (.ref lh))) (_ : o4.data = .cell (some (.int b tb))) (_ : o5.data = .cell (some (.ref kn))) (_ : o6.data = .cell v6) (_ : o7.data = .cell v7) (_ : IntsIn rest lc cs 8 5) (_ : IntsIn rest lh hs 8 3) (_ : 0 ≤ b) (_ : b < 256) (_ : ClsAt w rest kn (tabC cs 8)) (_ : (lm, lstO vm km) ∈ rest) (_ : IntsAre vm (bitsL b)) (_ : GdefM w rest gd (tabC cs 8) (tabC hs 8) (bitsL b)) (_ : m (Str.ofString "marks") = some (.ref lm)) (_ : m (Str.ofString "gdef") = some (.ref gd)) : P6 w L m news
/-- behind the flag and the number; at the row's turn i -/
inductive P7 (w : World) (L : Addr) (m : Str → Option Value) (news : Led) : Prop
  | mk (o1 o2 o3 o4 o5 o6 o7 : Obj) (v6 v7 : Option Value) (tp cl : Addr) (at' : Int) (ta : Tok) (n : Nat) (rest : Led) (ws : List Value) (ns : List Int) (k : Nat) (lc lh : Addr) (b : Int) (tb : Tok) (cs hs : List Int) (kn lm : Addr) (vm : List Value) (km : Nat) (gd : Addr) (fl q : Int) (tf tq : Tok) (_ : news = lawLed L o1 o2 o3 o4 o5 o6 o7 tp cl at' ta n rest) (_ : 0 ≤ at') (_ : at' ≤ 20) (_ : TapeIn L rest tp cl ws ns k) (_ : o1.data = .cell (some (.ref tp))) (_ : o2.data = .cell (some (.ref lc))) (_ : o3.data = .cell (some (.ref lh))) (_ : o4.data = .cell (some (.int b tb))) (_ : o5.data = .cell (some (.ref kn))) (_ : o6.data = .cell v6) (_ : o7.data = .cell v7) (_ : IntsIn rest lc cs 8 5) (_ : IntsIn rest lh hs 8 3) (_ : 0 ≤ b) (_ : b < 256) (_ : ClsAt w rest kn (tabC cs 8)) (_ : (lm, lstO vm km) ∈ rest) (_ : IntsAre vm (bitsL b)) (_ : GdefM w rest gd (tabC cs 8) (tabC hs 8) (bitsL b)) (_ : 0 ≤ fl) (_ : fl < 768) (_ : 0 ≤ q) (_ : q < 2) (_ : m (Str.ofString "marks") = some (.ref lm)) (_ : m (Str.ofString "gdef") = some (.ref gd)) (_ : m (Str.ofString "flag") = some (.int fl tf)) (_ : m (Str.ofString "number") = some (.int q tq)) : P7 w L m news
/-- behind the row -/
inductive P8 (w : World) (L : Addr) (m : Str → Option Value) (news : Led) : Prop
  | mk (o1 o2 o3 o4 o5 o6 o7 : Obj) (v7 : Option Value) (tp cl : Addr) (at' : Int) (ta : Tok) (n : Nat) (rest : Led) (ws : List Value) (ns : List Int) (k : Nat) (lc lh : Addr) (b : Int) (tb : Tok) (cs hs : List Int) (kn lm : Addr) (vm : List Value) (km : Nat) (gd : Addr) (fl q : Int) (tf tq : Tok) (rw : Addr) (vr : List Value) (kr : Nat) (R : List Rw) (_ : news = lawLed L o1 o2 o3 o4 o5 o6 o7 tp cl at' ta n rest) (_ : 0 ≤ at') (_ : at' ≤ 38) (_ : TapeIn L rest tp cl ws ns k) (_ : o1.data = .cell (some (.ref tp))) (_ : o2.data = .cell (some (.ref lc))) (_ : o3.data = .cell (some (.ref lh))) (_ : o4.data = .cell (some (.int b tb))) (_ : o5.data = .cell (some (.ref kn))) (_ : o6.data = .cell (some (.ref rw))) (_ : o7.data = .cell v7) (_ : IntsIn rest lc cs 8 5) (_ : IntsIn rest lh hs 8 3) (_ : 0 ≤ b) (_ : b < 256) (_ : ClsAt w rest kn (tabC cs 8)) (_ : (lm, lstO vm km) ∈ rest) (_ : IntsAre vm (bitsL b)) (_ : GdefM w rest gd (tabC cs 8) (tabC hs 8) (bitsL b)) (_ : 0 ≤ fl) (_ : fl < 768) (_ : 0 ≤ q) (_ : q < 2) (_ : (rw, lstO vr kr) ∈ rest) (_ : RowIn rest vr R) (_ : R.length = 6) (_ : (∀ r ∈ R, 0 ≤ r.g ∧ r.g < 8)) (_ : m (Str.ofString "marks") = some (.ref lm)) (_ : m (Str.ofString "gdef") = some (.ref gd)) (_ : m (Str.ofString "flag") = some (.int fl tf)) (_ : m (Str.ofString "number") = some (.int q tq)) : P8 w L m news
/-- behind the tests -/
inductive P9 (w : World) (L : Addr) (m : Str → Option Value) (news : Led) : Prop
  | mk (o1 o2 o3 o4 o5 o6 o7 : Obj) (v7 : Option Value) (rest : List (Addr × Obj)) (lc lh : Addr) (b : Int) (cs hs : List Int) (lm : Addr) (vm : List Value) (km : Nat) (gd : Addr) (fl q : Int) (tf tq : Tok) (rw : Addr) (vr : List Value) (kr : Nat) (R : List Rw) (tm : Tok) (tt : Addr) (vt : List Value) (kt : Nat) (Ts : List Tst) (mk : Int) (_ : news = (L + 1, o1) :: (L + 1 + 1, o2) :: (L + 1 + 1 + 1, o3) :: (L + 1 + 1 + 1 + 1, o4) :: (L + 1 + 1 + 1 + 1 + 1, o5) :: (L + 1 + 1 + 1 + 1 + 1 + 1, o6) :: (L + 1 + 1 + 1 + 1 + 1 + 1 + 1, o7) :: rest) (_ : (∀ p ∈ rest, OffC L p.1)) (_ : o2.data = .cell (some (.ref lc))) (_ : o3.data = .cell (some (.ref lh))) (_ : o6.data = .cell (some (.ref rw))) (_ : o7.data = .cell v7) (_ : IntsIn rest lc cs 8 5) (_ : IntsIn rest lh hs 8 3) (_ : 0 ≤ b) (_ : b < 256) (_ : (lm, lstO vm km) ∈ rest) (_ : IntsAre vm (bitsL b)) (_ : GdefM w rest gd (tabC cs 8) (tabC hs 8) (bitsL b)) (_ : 0 ≤ fl) (_ : fl < 768) (_ : 0 ≤ q) (_ : q < 2) (_ : (rw, lstO vr kr) ∈ rest) (_ : RowIn rest vr R) (_ : R.length = 6) (_ : (∀ r ∈ R, 0 ≤ r.g ∧ r.g < 8)) (_ : (tt, tupO vt kt) ∈ rest) (_ : TestsIn w rest vt Ts) (_ : 0 < Ts.length) (_ : m (Str.ofString "marks") = some (.ref lm)) (_ : m (Str.ofString "gdef") = some (.ref gd)) (_ : m (Str.ofString "flag") = some (.int fl tf)) (_ : m (Str.ofString "number") = some (.int q tq)) (_ : m (Str.ofString "mask") = some (.int mk tm)) (_ : m (Str.ofString "tests") = some (.ref tt)) : P9 w L m news
theorem row20_1 : True := by
  k_with "W:execs cons Assign cons" => ((k_here; k_extra "my stage"))
  exact trivial
section
variable {prog : Program} {w : World} {A : Around} {E : Value → Shared → Prop} {s : Shared} {env : Env} {h₀ : Heap} {x : Str} {body : List Stmt} {Q : Flow → Shared → Prop}
theorem for_rngJ {r : Addr} {b : Int} {t u v : Tok} {n : Nat} {m₀ : Str → Option Value} {news : Led} (J : Nat → (Str → Option Value) → Led → Prop)
    (hh : A.handled = none) (hr : IsRange s.heap r 0 b 1 t u v) (hsm : Builtin.Range.small 0 b 1 = true) (hn : Builtin.Range.rangeSize 0 b 1 = ((n : Nat) : Int)) (F : Fr h₀ env.locals s.heap m₀) (N : News h₀ env.locals s.heap news) (hj : J 0 m₀ news)
    (turn : ∀ (i : Nat) ti m₁ nx h tk I oI, i < n → J i m₁ nx → (∀ p ∈ news, p.1 < I) → (∀ p ∈ nx, p.1 ≠ I) → Fr h₀ env.locals h (fun y => if y = x then some (.int (i : Int) ti) else m₁ y) → News h₀ env.locals h ((I, oI) :: nx) →
      wpAny (model prog w) A (execs body env) (FPost h₀ env.locals I oI (J (i + 1)) { s with heap := h, toks := tk } Q) E { s with heap := h, toks := tk })
    (done : ∀ m₁ nx h tk, J n m₁ nx → Fr h₀ env.locals h m₁ → News h₀ env.locals h nx → Q .next { s with heap := h, toks := tk }) :
    wpAny (model prog w) A (pyIter (.ref r)) (fun it s₂ => LoopAtV prog w A h₀ env x body Q E it s₂) E s := by
  refine wpAny_pyIter_range hr hsm ?_
  refine for_core [] J (LCg.range_walks hh (I := s.heap.objs.size) 0 n) List.mem_cons_self (fun b hb q => ?_) ?_ (next_is_new F) (fun p hp => Nat.ne_of_lt (Heap.lt_size (N p hp).1)) (fun i h st => ⟨_, st⟩)
    (by show IsRangeIter _ _ _ _ _; rw [hn]; simpa using Heap.get?_push_size _ rfl) (F.push _) (fun p hp => ⟨Heap.get?_push_of_some _ (N p hp).1, (N p hp).2⟩) hj (fun i m nx h p hp => nomatch hp) ?_ done
  · exact absurd (List.mem_singleton.mp hb) q
  · intro hm'
    exact absurd F.ns.lt (List.mem_singleton.mp hm' ▸ Nat.lt_irrefl _)
  · rintro i v m₁ nx h tk oI hin ⟨ti, rfl⟩ hJ hoff F₁ N₁
    rw [Int.zero_add] at F₁
    exact turn i ti m₁ nx h tk _ oI hin hJ (fun p hp => Heap.lt_size (N p hp).1) hoff F₁ N₁
end
theorem row20_2 : True := by
  k_with "W:exec For Name Call cons nil" => ((k_here; k_extra "my for"; (rename Fr _ _ _ _ => x1ᵣ); (with_unfolding_all refine' For_invVF x1ᵣ ?k1 ?k2 ?_; (case k1 => exact rfl); (case k2 => exact rfl); k_whole)))
  exact trivial
theorem item_kind {prog : Program} {w : World} {A : Around} {E : Value → Shared → Prop} {s : Shared} {h₀ : Heap} {L : Addr} {news : Led} {value slice : PySem.Expr} {l : Addr} {a1 a2 a3 a4 a5 a6 : Str} {u1 u2 u3 u4 u5 u6 : Tok} {n : Nat} {k : Int} {u : Tok} {Q : Value → Shared → Prop} (N : News h₀ L s.heap news)
    (hm : (l, tupO [.str a1 u1, .str a2 u2, .str a3 u3, .str a4 u4, .str a5 u5, .str a6 u6] n) ∈ news)
    (h0 : 0 ≤ k) (h1 : k < 6) (h : ∀ S t, Q (.str S t) s)
    (hs : subscripted slice false (.ref l) (.int k u) = operate [.ref l, .int k u] (getItem (.ref l) (.int k u)) := by with_unfolding_all rfl) :
    wpAny (model prog w) A (subscriptTail value slice (.ref l) (.int k u)) Q E s := by
  have hj : seqIndex? k 6 = some k.toNat := StrLaws.seqIndex_nonneg h0 h1
  have hv : ∃ S t, ([.str a1 u1, .str a2 u2, .str a3 u3, .str a4 u4, .str a5 u5, .str a6 u6] : List Value)[k.toNat]? = some (.str S t) := by
    have : k.toNat = 0 ∨ k.toNat = 1 ∨ k.toNat = 2 ∨ k.toNat = 3 ∨ k.toNat = 4 ∨ k.toNat = 5 := by omega
    rcases this with e | e | e | e | e | e <;> rw [e] <;> exact ⟨_, _, rfl⟩
  obtain ⟨S, t, e⟩ := hv
  exact item_tupleT (News.isTup N hm) (by omega) (by omega) hj e (h S t) hs
theorem row20_3 : True := by
  k_with "W:subscriptTail" => ((k_here; (with_reducible show wpAny _ _ (subscriptTail (Expr.Tuple _ _ _) _ (Value.ref _) (Value.int _ _)) _ _ _); k_dflt (refine' item_kind ?k1 ?k2 ?k5 ?k6 ?_; (case k1 => k_asm); (case k2 => k_mem); (case k5 => first | k_asm | omega); (case k6 => first | k_asm | omega); k_whole); intro x1ᵣ x2ᵣ))
  exact trivial
theorem off_new {L D tp : Nat} {r : Led} (h : L + 1 ≠ D ∧ L + 1 + 1 ≠ D ∧ L + 1 + 1 + 1 ≠ D ∧ L + 1 + 1 + 1 + 1 ≠ D ∧ L + 1 + 1 + 1 + 1 + 1 ≠ D ∧ L + 1 + 1 + 1 + 1 + 1 + 1 ≠ D ∧ L + 1 + 1 + 1 + 1 + 1 + 1 + 1 ≠ D ∧ tp ≠ D ∧ LCg.Off1 D r) : @Ne Nat D tp ∧ OffC L D :=
  ⟨h.2.2.2.2.2.2.2.1.symm, h.1.symm, h.2.1.symm, h.2.2.1.symm, h.2.2.2.1.symm, h.2.2.2.2.1.symm, h.2.2.2.2.2.1.symm, h.2.2.2.2.2.2.1.symm⟩

theorem calm21 : True := by
  w_top off
  exact trivial
section
theorem row21_1 : True := by
  k_with "W:CompEnd" => ((with_reducible rename Stg _ 4 _ => K); (k_here; exact LCg.CompEnd.intro (by k_asm) (by k_asm) _ (fun _ x1ᵣ => x1ᵣ) (by assumption) trivial ⟨_, _, _, rfl, by assumption, by assumption, rfl⟩))
  exact trivial
theorem st1 {w : World} (K : Stg w 4 P2) : Stg w 1 P1 := by
  k_with "my stage" => ((with_reducible rename Stg _ 4 _ => K); (with_reducible show wpAny _ _ (execs (Stmt.Assign [Expr.Name (Str.ofString "known") _] _ _ :: _) _) _ _ _); refine halt ?_)
  intro mean mg mb base h₀ L fa cd m news s Q B F X N T hP hQ
  obtain ⟨o1, o2, o3, o4, o5, o6, o7, v2, v3, v4, v5, v6, v7, tp, cl, ta, n, rest, ws, ns, k, rfl, HT, d1, d2, d3, d4, d5, d6, d7⟩ := hP
  have hc := HT.hc
  obtain ⟨t1, t2, t3, t4, t5, t6, t7⟩ := HT.htp
  obtain ⟨r0, r1, r2, r3, r4, r5, r6, r7⟩ := HT.offs
  unfold lA lEnv
  conv in (occs := *) lawScope => all_goals (whnf; dsimp only)
  conv in (List.drop _ _) => whnf
  dsimp only [lawLed] at N
  k_steps
  unfold Halt
  (k_extra "shade"; rename_i hh1 tt1 a1 a2 a3 a4 a5 gg1 ys vs ta1 hI hlen hbnd D1 hh2 tt2 off1 hh3 e2 dd2 tt3 hh4 tt4 b1 b2 b3 b4 b5 gg2 zs us ta2 hJ hlen2 hbnd2 D2 hh5 tt5 off2 hh6 e3 dd3 v9 t9 ta9 hh7 tt7 lo9 hi9 hh8 e4 F8 N8 dd4; k_extra "light")
  have HT1 : TapeIn L ((D1, LCg.lst ys) :: rest) tp cl ws ns k := HT.cons (off_new off1).1 (off_new off1).2
  have HT2 : TapeIn L ((D2, LCg.lst zs) :: (D1, LCg.lst ys) :: rest) tp cl ws ns k := HT1.cons (off_new off2.2).1 (off_new off2.2).2
  refine K mean mg mb base h₀ L fa cd m (lawLed L o1 e2 e3 e4 o5 o6 o7 tp cl (0 + ((8 : Nat) : Int) + ((8 : Nat) : Int) + 1) ta9 n ((D2, LCg.lst zs) :: (D1, LCg.lst ys) :: rest)) _ Q B F8 X (cb_drop N8 ?sub) T ⟨o1, e2, e3, e4, o5, o6, o7, v5, v6, v7, tp, cl, _, ta9, n, _, ws, ns, k, D1, D2, v9, t9, vs, us, rfl, by omega, by omega, HT2, d1, dd2, dd3, dd4, d5, d6, d7, ⟨⟨ys, _, List.mem_cons_of_mem _ List.mem_cons_self, hI⟩, hlen, hbnd⟩, ⟨⟨zs, _, List.mem_cons_self, hJ⟩, hlen2, hbnd2⟩, lo9, hi9⟩ hQ
  case sub =>
    repeat (first | refine List.forall_mem_cons.mpr ⟨by k_mem, ?_⟩ | exact (fun p hp => by simp only [List.mem_cons, hp, or_true]))
end

theorem calm22 : True := by
  w_top off
  exact trivial
theorem st2 {w : World} (K : Stg w 5 (P3 w)) : Stg w 4 P2 := by
  k_with "my stage" => ((with_reducible rename Stg _ 5 _ => K); (with_reducible show wpAny _ _ (execs (Stmt.Assign [Expr.Name (Str.ofString "attach") _] _ _ :: _) _) _ _ _); refine halt ?_)
  k_with "my ct" => (walk_at "my ct"; k_dflt (refine' comp_tab (tp := tp) (cl := cl) (lc := lc) (cs := cs) (g := fun r => lawLed L o1 o2 o3 o4 o5 o6 o7 tp cl at' ta n r) HT mc ic lenc (fun i ys ti r I oI C oC D m₂ h tk E' hi hC hx F' N' off ne HT' mc' ha hb => ?turn) (fun ys r hsub HT' hP => ?fin)); (case' turn => ((try dsimp only [lawLed] at N' off); (try simp only [LCg.Off3] at off); ((have offQ := off); first | (rcases offQ with ⟨⟨_, _, _⟩, ⟨_, _, _⟩, ⟨_, _, _⟩, ⟨_, _, _⟩, ⟨_, _, _⟩, ⟨_, _, _⟩, ⟨_, _, _⟩, ⟨_, _, _⟩, _⟩) | skip); k_sweep; (try k_fold))); (case' fin => ((try dsimp only [lawLed]); (have mc' := hsub _ mc); (have mh' := hsub _ mh); (obtain ⟨q0, q1, q2, q3, q4, q5, q6, q7⟩ := TapeIn.offs HT'); (try k_fold))))
  intro mean mg mb base h₀ L fa cd m news s Q B F X N T hP hQ
  obtain ⟨o1, o2, o3, o4, o5, o6, o7, v5, v6, v7, tp, cl, at', ta, n, rest, ws, ns, k, lc, lh, b, tb, cs, hs, rfl, lo, hi, HT, d1, d2, d3, d4, d5, d6, d7, ⟨⟨vc, kc, mc, ic⟩, lenc, bc⟩, ⟨⟨vh, kh, mh, ih⟩, lenh, bh⟩, b0, b1⟩ := hP
  have hc := HT.hc
  obtain ⟨t1, t2, t3, t4, t5, t6, t7⟩ := HT.htp
  obtain ⟨r0, r1, r2, r3, r4, r5, r6, r7⟩ := HT.offs
  unfold lA lEnv
  conv in (occs := *) lawScope => all_goals (whnf; dsimp only)
  conv in (List.drop _ _) => whnf
  dsimp only [lawLed] at N
  k_steps
  case' fin => k_steps
  all_goals first
    | exact tab_true (by assumption) (by assumption) off (by assumption) (by assumption)
    | exact tab_false (by k_asm) (by k_asm) off (by assumption)
    | skip
  unfold Halt
  (k_extra "shade"; rename_i D1 hh2 tt2 off1 d9 o9 h9 tk9 hD9 lt9 x1 dx1 hh3 l1 l2 gg LL hh4 BB XX TT hh5 FF5 NN5 Tc kX hh6 e5 F8 N8 dd5; k_extra "light")
  have e1 : @LT.lt Nat _ dx1 x1 := l2
  have HT1 : TapeIn L ((x1, instObj 293 dx1) :: (dx1, dictOf [{ hash := PyData.keyHash w.params (Str.ofString "classes"), key := Value.str (Str.ofString "classes") (tk + 1), val := Value.ref d9 }] 1) :: (d9, o9) :: r) tp cl ws ns k := ((HT'.cons (by omega) (by unfold OffC; omega)).cons (by omega) (by unfold OffC; omega)).cons (by omega) (by unfold OffC; omega)
  refine K mean mg mb base h₀ L fa cd m (lawLed L o1 o2 o3 o4 e5 o6 o7 tp cl at' ta n ((x1, instObj 293 dx1) :: (dx1, dictOf [{ hash := PyData.keyHash w.params (Str.ofString "classes"), key := Value.str (Str.ofString "classes") (tk + 1), val := Value.ref d9 }] 1) :: (d9, o9) :: r)) _ Q B F8 X (cb_drop N8 ?sub) T
    ⟨o1, o2, o3, o4, e5, o6, o7, v6, v7, tp, cl, at', ta, n, _, ws, ns, k, lc, lh, b, tb, cs, hs, x1, rfl, lo, hi, HT1, d1, d2, d3, d4, dd5, d6, d7, ⟨⟨vc, kc, by k_mem, ic⟩, lenc, bc⟩, ⟨⟨vh, kh, by k_mem, ih⟩, lenh, bh⟩, b0, b1, cls_of (by k_mem) (by k_mem) (by with_unfolding_all rfl) (by with_unfolding_all rfl) (hD9.one (by k_mem))⟩ hQ
  case sub =>
    repeat (first | refine List.forall_mem_cons.mpr ⟨by k_mem, ?_⟩ | exact (fun p hp => by simp only [List.mem_cons, hp, or_true]))

theorem calm23 : True := by
  w_top off
  exact trivial
theorem st3 {w : World} (K : Stg w 6 (P4 w)) : Stg w 5 (P3 w) := by
  k_with "my stage" => ((with_reducible rename Stg _ 6 _ => K); (with_reducible show wpAny _ _ (execs (Stmt.Assign [Expr.Name (Str.ofString "marks") _] _ _ :: _) _) _ _ _); refine halt ?_)
  k_with "my ct" => (walk_at "my ct"; k_dflt (refine' comp_tab (tp := tp) (cl := cl) (lc := lh) (cs := hs) (g := fun r => lawLed L o1 o2 o3 o4 o5 o6 o7 tp cl at' ta n r) HT mh ih lenh (fun i ys ti r I oI C oC D m₂ h tk E' hi hC hx F' N' off ne HT' mc' ha hb => ?turn) (fun ys r hsub HT' hP => ?fin)); (case' turn => ((try dsimp only [lawLed] at N' off); (try simp only [LCg.Off3] at off); ((have offQ := off); first | (rcases offQ with ⟨⟨_, _, _⟩, ⟨_, _, _⟩, ⟨_, _, _⟩, ⟨_, _, _⟩, ⟨_, _, _⟩, ⟨_, _, _⟩, ⟨_, _, _⟩, ⟨_, _, _⟩, _⟩) | skip); k_sweep; (try k_fold))); (case' fin => ((try dsimp only [lawLed]); (have mc' := hsub _ mc); (have mh' := hsub _ mh); (have hkn' := ClsAt.mono hkn hsub); (obtain ⟨q0, q1, q2, q3, q4, q5, q6, q7⟩ := TapeIn.offs HT'); (try k_fold))))
  intro mean mg mb base h₀ L fa cd m news s Q B F X N T hP hQ
  obtain ⟨o1, o2, o3, o4, o5, o6, o7, v6, v7, tp, cl, at', ta, n, rest, ws, ns, k, lc, lh, b, tb, cs, hs, kn, rfl, lo, hi, HT, d1, d2, d3, d4, d5, d6, d7, ⟨⟨vc, kc, mc, ic⟩, lenc, bc⟩, ⟨⟨vh, kh, mh, ih⟩, lenh, bh⟩, b0, b1, hkn⟩ := hP
  have hc := HT.hc
  obtain ⟨t1, t2, t3, t4, t5, t6, t7⟩ := HT.htp
  obtain ⟨r0, r1, r2, r3, r4, r5, r6, r7⟩ := HT.offs
  unfold lA lEnv
  conv in (occs := *) lawScope => all_goals (whnf; dsimp only)
  conv in (List.drop _ _) => whnf
  dsimp only [lawLed] at N
  k_steps
  case' fin => k_steps
  all_goals first
    | exact tab_true (by assumption) (by assumption) off (by assumption) (by assumption)
    | exact tab_false (by k_asm) (by k_asm) off (by assumption)
    | skip
  unfold Halt
  (k_extra "shade"; rename_i D1 hh2 tt2 off1 d9 o9 h9 tk9 hD9 lt9 x1 dx1 hh3 l1 l2 gg LL hh4 BB XX TT hh5 FF5 NN5 Tc kX hh6 F8 N8; k_extra "light")
  have e1 : @LT.lt Nat _ dx1 x1 := l2
  have HT1 : TapeIn L ((x1, instObj 293 dx1) :: (dx1, dictOf [{ hash := PyData.keyHash w.params (Str.ofString "classes"), key := Value.str (Str.ofString "classes") (tk + 1), val := Value.ref d9 }] 1) :: (d9, o9) :: r) tp cl ws ns k := ((HT'.cons (by omega) (by unfold OffC; omega)).cons (by omega) (by unfold OffC; omega)).cons (by omega) (by unfold OffC; omega)
  refine K mean mg mb base h₀ L fa cd _ (lawLed L o1 o2 o3 o4 o5 o6 o7 tp cl at' ta n ((x1, instObj 293 dx1) :: (dx1, dictOf [{ hash := PyData.keyHash w.params (Str.ofString "classes"), key := Value.str (Str.ofString "classes") (tk + 1), val := Value.ref d9 }] 1) :: (d9, o9) :: r)) _ Q B F8 X (cb_drop N8 ?sub) T
    ⟨o1, o2, o3, o4, o5, o6, o7, v6, v7, tp, cl, at', ta, n, _, ws, ns, k, lc, lh, b, tb, cs, hs, kn, x1, rfl, lo, hi, HT1, d1, d2, d3, d4, d5, d6, d7, ⟨⟨vc, kc, by k_mem, ic⟩, lenc, bc⟩, ⟨⟨vh, kh, by k_mem, ih⟩, lenh, bh⟩, b0, b1, hkn'.mono (fun p hp => by simp only [List.mem_cons, hp, or_true]), cls_of (by k_mem) (by k_mem) (by with_unfolding_all rfl) (by with_unfolding_all rfl) (hD9.one (by k_mem)), rfl⟩ hQ
  case sub =>
    repeat (first | refine List.forall_mem_cons.mpr ⟨by k_mem, ?_⟩ | exact (fun p hp => by simp only [List.mem_cons, hp, or_true]))

theorem calm24 : True := by
  w_top off
  exact trivial
theorem st4 {w : World} (K : Stg w 7 (P5 w)) : Stg w 6 (P4 w) := by
  k_with "my stage" => ((with_reducible rename Stg _ 7 _ => K); (with_reducible show wpAny _ _ (execs (Stmt.Assign [Expr.Name (Str.ofString "gdef") _] _ _ :: _) _) _ _ _); refine halt ?_)
  k_with "my cf" => (walk_at "my ct"; k_dflt (refine' comp_flt (bitP b) (fun i ys ti I oI C oC D m₂ h tk E' hi hC hx F' N' off ne ha hb => ?turn) (fun ys hI => ?fin)); (case' turn => ((try simp only [LCg.Off3] at off); ((have offQ := off); first | (rcases offQ with ⟨⟨_, _, _⟩, ⟨_, _, _⟩, ⟨_, _, _⟩, ⟨_, _, _⟩, ⟨_, _, _⟩, ⟨_, _, _⟩, ⟨_, _, _⟩, ⟨_, _, _⟩, _⟩) | skip); (try dsimp only at N'); k_sweep; (try k_fold))); (case' fin => ((try k_fold))))
  intro mean mg mb base h₀ L fa cd m news s Q B F X N T hP hQ
  obtain ⟨o1, o2, o3, o4, o5, o6, o7, v6, v7, tp, cl, at', ta, n, rest, ws, ns, k, lc, lh, b, tb, cs, hs, kn, ka, rfl, lo, hi, HT, d1, d2, d3, d4, d5, d6, d7, hic, hih, b0, b1, hkn, hka, hma⟩ := hP
  have hc := HT.hc
  obtain ⟨t1, t2, t3, t4, t5, t6, t7⟩ := HT.htp
  obtain ⟨r0, r1, r2, r3, r4, r5, r6, r7⟩ := HT.offs
  unfold lA lEnv
  conv in (occs := *) lawScope => all_goals (whnf; dsimp only)
  conv in (List.drop _ _) => whnf
  dsimp only [lawLed] at N
  k_steps
  case' fin => k_steps
  all_goals first
    | exact LCg.CompEnd.intro (by k_asm) (by k_asm) (lawLed L o1 o2 o3 o4 o5 o6 o7 tp cl at' ta n rest) (fun _ h => h) off trivial ⟨decide_eq_true (by assumption), rfl, _, rfl⟩
    | exact LCg.CompEnd.intro (by k_asm) (by k_asm) (lawLed L o1 o2 o3 o4 o5 o6 o7 tp cl at' ta n rest) (fun _ h => h) off trivial ⟨decide_eq_false (by assumption), rfl⟩
    | skip
  unfold Halt
  (k_extra "shade"; rename_i D1 hh2 tt2 F8 N8 off1; k_extra "light")
  have HT1 : TapeIn L ((D1, LCg.lst ys) :: rest) tp cl ws ns k := HT.cons (off_new off1).1 (off_new off1).2
  have sub : ∀ p ∈ rest, p ∈ (D1, LCg.lst ys) :: rest := fun p hp => List.mem_cons_of_mem _ hp
  refine K mean mg mb base h₀ L fa cd _ (lawLed L o1 o2 o3 o4 o5 o6 o7 tp cl at' ta n ((D1, LCg.lst ys) :: rest)) _ Q B F8 X (cb_drop N8 ?sub) T
    ⟨o1, o2, o3, o4, o5, o6, o7, v6, v7, tp, cl, at', ta, n, _, ws, ns, k, lc, lh, b, tb, cs, hs, kn, ka, D1, ys, _, rfl, lo, hi, HT1, d1, d2, d3, d4, d5, d6, d7, hic.mono sub, hih.mono sub, b0, b1, hkn.mono sub, hka.mono sub, List.mem_cons_self, hI, (if_neg (by decide)).trans hma, if_pos rfl⟩ hQ
  case sub =>
    repeat (first | refine List.forall_mem_cons.mpr ⟨by k_mem, ?_⟩ | exact (fun p hp => by simp only [List.mem_cons, hp, or_true]))

theorem calm25 : True := by
  w_top off
  exact trivial
theorem st5 {w : World} (K : Stg w 8 (P6 w)) : Stg w 7 (P5 w) := by
  k_with "my stage" => ((with_reducible rename Stg _ 8 _ => K); (with_reducible show wpAny _ _ (execs (Stmt.Assign [Expr.Name (Str.ofString "flag") _] _ _ :: _) _) _ _ _); refine halt ?_)
  intro mean mg mb base h₀ L fa cd m news s Q B F X N T hP hQ
  obtain ⟨o1, o2, o3, o4, o5, o6, o7, v6, v7, tp, cl, at', ta, n, rest, ws, ns, k, lc, lh, b, tb, cs, hs, kn, ka, lm, vm, km, rfl, lo, hi, HT, d1, d2, d3, d4, d5, d6, d7, hic, hih, b0, b1, hkn, hka, hlm, him, hma, hmm⟩ := hP
  have hc := HT.hc
  have F := fr_put (fr_put F hma) ((if_neg (by decide)).trans hmm)
  obtain ⟨t1, t2, t3, t4, t5, t6, t7⟩ := HT.htp
  obtain ⟨r0, r1, r2, r3, r4, r5, r6, r7⟩ := HT.offs
  unfold lA lEnv
  conv in (occs := *) lawScope => all_goals (whnf; dsimp only)
  conv in (List.drop _ _) => whnf
  dsimp only [lawLed] at N
  k_steps
  unfold Halt
  (k_extra "shade"; rename_i D1 a1 l1 x1 e1 a2 l2 l3 a3 a4 a5 a6 a7 a8 sq1 sq2 sq3 a9 a10 a11 a12 a13 lv c1 l4 x2 e2 b2 l5 l6 b3 b4 b5 b6 b7 b8 b9 b10 c10 d11 b11 u1 u2 u3 u4 u5 u6 l7 b12 d12 b13 y1 y2 y3 y4 y5 y6 l8 b14 b15 b16 b17 b18 b19 F8 N8; k_extra "light")
  have l3 := lt_nat l3
  have l6 := lt_nat l6
  obtain ⟨N9, HT9, sub9⟩ := fold_led [_, _, _, _, _, _, _, _] HT N8 (by repeat (first | exact List.forall_mem_nil _ | refine List.forall_mem_cons.mpr ⟨off_lt (by omega) (by omega), ?_⟩))
  simp only [List.cons_append, List.nil_append] at N9 HT9 sub9
  refine K mean mg mb base h₀ L fa cd _ _ _ Q B F8 X N9 T
    ⟨o1, o2, o3, o4, o5, o6, o7, v6, v7, tp, cl, at', ta, n, _, ws, ns, k, lc, lh, b, tb, cs, hs, kn, lm, vm, km, x2, rfl, lo, hi, HT9, d1, d2, d3, d4, d5, d6, d7, hic.mono sub9, hih.mono sub9, b0, b1, hkn.mono sub9, sub9 _ hlm, him, ⟨⟨e2, kn, ka, lv, x1, _, _, _, by k_mem, by k_mem, by with_unfolding_all rfl, by with_unfolding_all rfl, by with_unfolding_all rfl, by with_unfolding_all rfl, by with_unfolding_all rfl, by with_unfolding_all rfl, hkn.mono sub9, hka.mono sub9, by k_mem, ⟨⟨e1, D1, vm, 0, _, _, by k_mem, by k_mem, by with_unfolding_all rfl, by with_unfolding_all rfl, by with_unfolding_all rfl, by k_mem, him⟩, bitsL_len b, bitsL_sorted b⟩⟩⟩, by with_unfolding_all rfl, by with_unfolding_all rfl⟩ hQ

theorem calm26 : True := by
  w_top off
  exact trivial
theorem st6 {w : World} (K : Stg w 10 (P7 w)) : Stg w 8 (P6 w) := by
  k_with "my stage" => ((with_reducible rename Stg _ 10 _ => K); (with_reducible show wpAny _ _ (execs (Stmt.Assign [Expr.Name (Str.ofString "row") _] _ _ :: _) _) _ _ _); refine halt ?_)
  intro mean mg mb base h₀ L fa cd m news s Q B F X N T hP hQ
  obtain ⟨o1, o2, o3, o4, o5, o6, o7, v6, v7, tp, cl, at', ta, n, rest, ws, ns, k, lc, lh, b, tb, cs, hs, kn, lm, vm, km, gd, rfl, lo, hi, HT, d1, d2, d3, d4, d5, d6, d7, hic, hih, b0, b1, hkn, hlm, him, hgd, hmm, hmg⟩ := hP
  have hc := HT.hc
  obtain ⟨t1, t2, t3, t4, t5, t6, t7⟩ := HT.htp
  obtain ⟨r0, r1, r2, r3, r4, r5, r6, r7⟩ := HT.offs
  unfold lA lEnv
  conv in (occs := *) lawScope => all_goals (whnf; dsimp only)
  conv in (List.drop _ _) => whnf
  dsimp only [lawLed] at N
  k_steps
  unfold Halt
  (k_extra "shade"; rename_i f1 tf1 ta1 hh1 tk1 lo1 hi1 sq sk f2 tf2 ta2 hh2 tk2 lo2 hi2 hh3 q tq ta3 hh4 tk4 lo3 hi3 hh5 F8 N8; k_extra "light")
  refine K mean mg mb base h₀ L fa cd _ _ _ Q B F8 X N8 T
    ⟨o1, o2, o3, o4, o5, o6, o7, v6, v7, tp, cl, _, _, n, _, ws, ns, k, lc, lh, b, tb, cs, hs, kn, lm, vm, km, gd, f1 + 256 * f2, q, _, _, rfl, by omega, by omega, HT, d1, d2, d3, d4, d5, d6, d7, hic, hih, b0, b1, hkn, hlm, him, hgd, by omega, by omega, lo3, hi3, by with_unfolding_all exact hmm, by with_unfolding_all exact hmg, by with_unfolding_all rfl, by with_unfolding_all rfl⟩ hQ

theorem calm28 : True := by
  w_top off
  exact trivial
/-! the plain law: what the scans tell of the row, told of the row without the ignored -/
noncomputable def kp (R : List Rw) (ig : Int → Bool) (i : Nat) : Bool := !ig (R.getD i rw0).g
noncomputable def keptN (R : List Rw) (ig : Int → Bool) (n : Nat) : List Nat := (List.range n).filter (kp R ig)
noncomputable def rk (R : List Rw) (ig : Int → Bool) (n : Nat) : Nat := (keptN R ig n).length
noncomputable def shortR (R : List Rw) (ig : Int → Bool) : List Rw := (keptN R ig R.length).map fun i => R.getD i rw0
noncomputable def placesL (ks : List Nat) (n : Nat) : List (Int × Int) := (List.range n).map fun j => ((ks.getD j 0 : Nat), ((j : Nat) : Int))
noncomputable def sameL (n : Nat) : List (Int × Int) := (List.range n).map fun j => (((j : Nat) : Int), ((j : Nat) : Int))
section
variable {R : List Rw} {ig : Int → Bool}
theorem keptN_succ (n : Nat) : keptN R ig (n + 1) = keptN R ig n ++ (if kp R ig n = true then [n] else []) := by
  unfold keptN
  rw [List.range_succ, List.filter_append]
  congr 1
  by_cases h : kp R ig n = true
  · rw [if_pos h, List.filter_cons_of_pos h]; rfl
  · rw [if_neg h, List.filter_cons_of_neg h]; rfl
theorem rk_yes {n : Nat} (h : kp R ig n = true) : rk R ig (n + 1) = rk R ig n + 1 := by
  unfold rk; rw [keptN_succ, if_pos h, List.length_append]; rfl
theorem rk_no {n : Nat} (h : kp R ig n = false) : rk R ig (n + 1) = rk R ig n := by
  unfold rk; rw [keptN_succ, if_neg (by rw [h]; exact Bool.false_ne_true), List.append_nil]
theorem kept_at {i : Nat} (h : kp R ig i = true) : ∀ m, i < m → (keptN R ig m)[rk R ig i]? = some i
  | 0, hi => absurd hi (Nat.not_lt_zero _)
  | m + 1, hi => by
    rw [keptN_succ]
    by_cases e : i = m
    · subst e
      rw [if_pos h]
      exact List.getElem?_concat_length
    · have := kept_at h m (by omega)
      have hl := (List.getElem?_eq_some_iff.mp this).1
      rw [List.getElem?_append_left hl]
      exact this
theorem rk_lt {i m : Nat} (h : kp R ig i = true) (hi : i < m) : rk R ig i < rk R ig m := (List.getElem?_eq_some_iff.mp (kept_at h m hi)).1
theorem short_at {i : Nat} (h : kp R ig i = true) (hi : i < R.length) : (shortR R ig).getD (rk R ig i) rw0 = R.getD i rw0 := by
  unfold shortR
  rw [List.getD_eq_getElem?_getD, List.getElem?_map, kept_at h _ hi]
  rfl
theorem short_len : (shortR R ig).length = rk R ig R.length := List.length_map _
/-- two answers that tell the same place -/
noncomputable def Tr (R : List Rw) (ig : Int → Bool) (x x' : Int) : Prop := (x = -1 ∧ x' = -1) ∨ ∃ i : Nat, i < R.length ∧ kp R ig i = true ∧ x = (i : Int) ∧ x' = (rk R ig i : Int)
/-- two readings of a place that tell the same -/
noncomputable def Cor (R : List Rw) (ig : Int → Bool) (C C' : Int → Option Int) : Prop := ∀ i : Nat, i < R.length → (kp R ig i = false → C i = none) ∧
  (kp R ig i = true → (C i = none ∧ C' (rk R ig i : Int) = none) ∨ (C i = some (i : Int) ∧ C' (rk R ig i : Int) = some (rk R ig i : Int)) ∨ (C i = some (-1) ∧ C' (rk R ig i : Int) = some (-1)))
theorem scan_up {C C' : Int → Option Int} (H : Cor R ig C C') : ∀ (d h : Nat), h + d = R.length → Tr R ig (scanS R.length 1 C (h : Int)) (scanS (shortR R ig).length 1 C' (rk R ig h : Int)) := by
  rw [short_len]
  intro d
  induction d with
  | zero =>
    intro h e
    have e : h = R.length := by omega
    subst e
    rw [scanS_out (by omega), scanS_out (by omega)]
    exact .inl ⟨rfl, rfl⟩
  | succ d ih =>
    intro h e
    have hl : h < R.length := by omega
    obtain ⟨c1, c2⟩ := H h hl
    cases hk : kp R ig h with
    | false =>
      rw [scanS_go (.inl rfl) ⟨by omega, by omega⟩ (c1 hk)]
      have := ih (h + 1) (by omega)
      rw [rk_no hk] at this
      exact this
    | true =>
      have hr := rk_lt hk hl
      rcases c2 hk with ⟨e1, e2⟩ | ⟨e1, e2⟩ | ⟨e1, e2⟩
      · rw [scanS_go (.inl rfl) ⟨by omega, by omega⟩ e1, scanS_go (.inl rfl) ⟨by omega, by omega⟩ e2]
        have := ih (h + 1) (by omega)
        rw [rk_yes hk] at this
        exact this
      · rw [scanS_hit (.inl rfl) ⟨by omega, by omega⟩ e1, scanS_hit (.inl rfl) ⟨by omega, by omega⟩ e2]
        exact .inr ⟨h, hl, hk, rfl, rfl⟩
      · rw [scanS_hit (.inl rfl) ⟨by omega, by omega⟩ e1, scanS_hit (.inl rfl) ⟨by omega, by omega⟩ e2]
        exact .inl ⟨rfl, rfl⟩
theorem scan_down {C C' : Int → Option Int} (H : Cor R ig C C') : ∀ (j : Nat), j ≤ R.length → Tr R ig (scanS R.length (-1) C ((j : Int) + -1)) (scanS (shortR R ig).length (-1) C' ((rk R ig j : Int) + -1)) := by
  rw [short_len]
  intro j
  induction j with
  | zero =>
    intro _
    have e : rk R ig 0 = 0 := rfl
    rw [e, scanS_out (by omega), scanS_out (by omega)]
    exact .inl ⟨rfl, rfl⟩
  | succ h ih =>
    intro hj
    have hl : h < R.length := by omega
    obtain ⟨c1, c2⟩ := H h hl
    have e0 : ((h + 1 : Nat) : Int) + -1 = (h : Int) := by omega
    rw [e0]
    cases hk : kp R ig h with
    | false =>
      rw [scanS_go (.inr rfl) ⟨by omega, by omega⟩ (c1 hk), rk_no hk]
      exact ih (by omega)
    | true =>
      have hr := rk_lt hk hl
      have e1' : ((rk R ig (h + 1) : Nat) : Int) + -1 = (rk R ig h : Int) := by rw [rk_yes hk]; omega
      rw [e1']
      rcases c2 hk with ⟨e1, e2⟩ | ⟨e1, e2⟩ | ⟨e1, e2⟩
      · rw [scanS_go (.inr rfl) ⟨by omega, by omega⟩ e1, scanS_go (.inr rfl) ⟨by omega, by omega⟩ e2]
        exact ih (by omega)
      · rw [scanS_hit (.inr rfl) ⟨by omega, by omega⟩ e1, scanS_hit (.inr rfl) ⟨by omega, by omega⟩ e2]
        exact .inr ⟨h, hl, hk, rfl, rfl⟩
      · rw [scanS_hit (.inr rfl) ⟨by omega, by omega⟩ e1, scanS_hit (.inr rfl) ⟨by omega, by omega⟩ e2]
        exact .inl ⟨rfl, rfl⟩
variable {ig' : Int → Bool} (hig : ∀ g, ig' g = false)
include hig
theorem cor_nb : Cor R ig (nbC R ig) (nbC (shortR R ig) ig') := by
  intro i hi
  refine ⟨fun hk => nbC_ig (by unfold kp at hk; rw [Int.toNat_natCast]; simpa using hk), fun hk => ?_⟩
  have e1 : ig (R.getD ((i : Nat) : Int).toNat rw0).g = false := by unfold kp at hk; rw [Int.toNat_natCast]; simpa using hk
  have e2 : (shortR R ig).getD ((rk R ig i : Nat) : Int).toNat rw0 = R.getD ((i : Nat) : Int).toNat rw0 := by rw [Int.toNat_natCast, Int.toNat_natCast]; exact short_at hk hi
  cases h3 : kAr.any (· == (R.getD ((i : Nat) : Int).toNat rw0).kd) with
  | true => exact .inl ⟨nbC_kd e1 h3, nbC_kd (hig _) (by rw [e2]; exact h3)⟩
  | false => exact .inr (.inl ⟨nbC_hit e1 h3, nbC_hit (hig _) (by rw [e2]; exact h3)⟩)
theorem cor_fd (T : Tst) (ys : List Str) (mask : Int) (b : Bool) : Cor R ig (fdC R ig T ys mask b) (fdC (shortR R ig) ig' T ys mask b) := by
  intro i hi
  refine ⟨fun hk => fdC_ig (by unfold kp at hk; rw [Int.toNat_natCast]; simpa using hk), fun hk => ?_⟩
  have e1 : ig (R.getD ((i : Nat) : Int).toNat rw0).g = false := by unfold kp at hk; rw [Int.toNat_natCast]; simpa using hk
  have e2 : (shortR R ig).getD ((rk R ig i : Nat) : Int).toNat rw0 = R.getD ((i : Nat) : Int).toNat rw0 := by rw [Int.toNat_natCast, Int.toNat_natCast]; exact short_at hk hi
  unfold fdC
  rw [e2, e1, hig]
  rw [if_neg Bool.false_ne_true, if_neg Bool.false_ne_true]
  split
  · exact .inr (.inl ⟨rfl, rfl⟩)
  · split
    · exact .inl ⟨rfl, rfl⟩
    · exact .inr (.inr ⟨rfl, rfl⟩)
theorem tr_nb1 {i : Nat} (hi : i < R.length) (hk : kp R ig i = true) : Tr R ig (scanS R.length 1 (nbC R ig) ((i : Int) + 1)) (scanS (shortR R ig).length 1 (nbC (shortR R ig) ig') ((rk R ig i : Int) + 1)) := by
  have := scan_up (cor_nb (R := R) (ig := ig) hig) (R.length - (i + 1)) (i + 1) (by omega)
  rw [rk_yes hk] at this
  exact this
theorem tr_nb2 {i : Nat} (hi : i < R.length) : Tr R ig (scanS R.length (-1) (nbC R ig) ((i : Int) + -1)) (scanS (shortR R ig).length (-1) (nbC (shortR R ig) ig') ((rk R ig i : Int) + -1)) :=
  scan_down (cor_nb hig) i (by omega)
theorem tr_fd1 {i : Nat} (hi : i < R.length) (hk : kp R ig i = true) (T : Tst) (ys : List Str) (mask : Int) (b : Bool) : Tr R ig (scanS R.length 1 (fdC R ig T ys mask b) ((i : Int) + 1)) (scanS (shortR R ig).length 1 (fdC (shortR R ig) ig' T ys mask b) ((rk R ig i : Int) + 1)) := by
  have := scan_up (cor_fd (R := R) (ig := ig) hig T ys mask b) (R.length - (i + 1)) (i + 1) (by omega)
  rw [rk_yes hk] at this
  exact this
theorem tr_fd2 {i : Nat} (hi : i < R.length) (T : Tst) (ys : List Str) (mask : Int) (b : Bool) : Tr R ig (scanS R.length (-1) (fdC R ig T ys mask b) ((i : Int) + -1)) (scanS (shortR R ig).length (-1) (fdC (shortR R ig) ig' T ys mask b) ((rk R ig i : Int) + -1)) :=
  scan_down (cor_fd hig T ys mask b) i (by omega)
theorem tr_last {mask step : Int} (hst : step = 1 ∨ step = -1) : ∀ (Ts : List Tst) (i : Nat), i < R.length → kp R ig i = true → Tr R ig (lastL (stF R ig mask step) Ts (i : Int)) (lastL (stF (shortR R ig) ig' mask step) Ts (rk R ig i : Int))
  | [], i, hi, hk => .inr ⟨i, hi, hk, rfl, rfl⟩
  | T :: r, i, hi, hk => by
    have key : Tr R ig (stF R ig mask step T (i : Int)) (stF (shortR R ig) ig' mask step T (rk R ig i : Int)) := by
      unfold stF
      rcases hst with rfl | rfl
      · exact tr_fd1 hig hi hk _ _ _ _
      · exact tr_fd2 hig hi _ _ _ _
    unfold lastL
    rcases key with ⟨e1, e2⟩ | ⟨j, hj, hkj, e1, e2⟩
    · rw [e1, e2, if_pos (by decide), if_pos (by decide)]
      exact .inl ⟨rfl, rfl⟩
    · rw [e1, e2, if_neg (by omega), if_neg (by omega)]
      exact tr_last hst r j hj hkj
theorem tr_in {mask : Int} : ∀ (Ts : List Tst) (js : List Nat) (i : Nat), (∀ j ∈ js ++ [i], j < R.length ∧ kp R ig j = true) →
    (inL (inF R ig mask) Ts ((js ++ [i]).map Int.ofNat) = none ∧ inL (inF (shortR R ig) ig' mask) Ts ((js ++ [i]).map fun j => (rk R ig j : Int)) = none) ∨
    ∃ ls : List Nat, (∀ j ∈ ls, j < R.length ∧ kp R ig j = true) ∧ inL (inF R ig mask) Ts ((js ++ [i]).map Int.ofNat) = some (ls.map Int.ofNat) ∧ inL (inF (shortR R ig) ig' mask) Ts ((js ++ [i]).map fun j => (rk R ig j : Int)) = some (ls.map fun j => (rk R ig j : Int))
  | [], js, i, h => .inr ⟨_, h, rfl, rfl⟩
  | T :: r, js, i, h => by
    obtain ⟨hi, hk⟩ := h i (List.mem_append.mpr (.inr List.mem_cons_self))
    have g1 : ((js ++ [i]).map Int.ofNat).getLastD 0 = (i : Int) := by rw [List.map_append, List.map_cons, List.map_nil]; exact List.getLastD_concat
    have g2 : ((js ++ [i]).map fun j => (rk R ig j : Int)).getLastD 0 = (rk R ig i : Int) := by rw [List.map_append, List.map_cons, List.map_nil]; exact List.getLastD_concat
    have key : Tr R ig (inF R ig mask T (i : Int)) (inF (shortR R ig) ig' mask T (rk R ig i : Int)) := tr_fd1 hig hi hk _ _ _ _
    unfold inL
    rw [g1, g2]
    rcases key with ⟨e1, e2⟩ | ⟨j, hj, hkj, e1, e2⟩
    · rw [e1, e2, if_pos (by decide), if_pos (by decide)]
      exact .inl ⟨rfl, rfl⟩
    · rw [e1, e2, if_neg (by omega), if_neg (by omega)]
      have := tr_in (mask := mask) r (js ++ [i]) j (fun k hk' => (List.mem_append.mp hk').elim (h k) fun e => by rw [List.mem_singleton.mp e]; exact ⟨hj, hkj⟩)
      simp only [List.map_append, List.map_cons, List.map_nil] at this ⊢
      exact this
end
theorem keptN_nodup (R : List Rw) (ig : Int → Bool) (n : Nat) : (keptN R ig n).Nodup := List.Pairwise.filter _ List.nodup_range
theorem placesL_succ (ks : List Nat) (n : Nat) : placesL ks (n + 1) = placesL ks n ++ [(((ks.getD n 0 : Nat) : Int), ((n : Nat) : Int))] := by
  unfold placesL; rw [List.range_succ, List.map_append]; rfl
theorem sameL_succ (n : Nat) : sameL (n + 1) = sameL n ++ [(((n : Nat) : Int), ((n : Nat) : Int))] := by
  unfold sameL; rw [List.range_succ, List.map_append]; rfl
theorem placesL_nodup {ks : List Nat} (h : ks.Nodup) : ((placesL ks ks.length).map (·.1)).Nodup := by
  have e : (placesL ks ks.length).map (·.1) = ks.map Int.ofNat := by
    refine List.ext_getElem? fun i => ?_
    unfold placesL
    rw [List.map_map, List.getElem?_map, List.getElem?_map]
    by_cases hi : i < ks.length
    · rw [List.getElem?_range hi, List.getElem?_eq_getElem hi]
      simp [List.getD, hi]
    · rw [List.getElem?_eq_none (by simpa using hi), List.getElem?_eq_none (by omega)]
      rfl
  rw [e]
  exact List.Pairwise.map _ (fun a b hab => fun e => hab (Int.ofNat.inj e)) h
theorem sameL_nodup (n : Nat) : ((sameL n).map (·.1)).Nodup := by
  unfold sameL
  rw [List.map_map]
  exact List.Pairwise.map _ (fun a b hab => fun e => hab (Int.ofNat.inj e)) List.nodup_range
theorem placesL_len (ks : List Nat) (n : Nat) : (placesL ks n).length = n := by unfold placesL; rw [List.length_map, List.length_range]
theorem sameL_len (n : Nat) : (sameL n).length = n := by unfold sameL; rw [List.length_map, List.length_range]
section
variable {R : List Rw} {ig : Int → Bool}
theorem places_look {i : Nat} (hi : i < R.length) (hk : kp R ig i = true) (d : Int) : kdfLook (placesL (keptN R ig R.length) (keptN R ig R.length).length) (i : Int) d = (rk R ig i : Int) := by
  refine look_of_mem (placesL_nodup (keptN_nodup R ig _)) ?_
  unfold placesL
  refine List.mem_map.mpr ⟨rk R ig i, List.mem_range.mpr (rk_lt hk hi), ?_⟩
  have := kept_at hk _ hi
  rw [List.getD_eq_getElem?_getD, this]
  rfl
theorem same_look {n j : Nat} (hj : j < n) (d : Int) : kdfLook (sameL n) (j : Int) d = (j : Int) := by
  refine look_of_mem (sameL_nodup n) ?_
  unfold sameL
  exact List.mem_map.mpr ⟨j, List.mem_range.mpr hj, rfl⟩
theorem tr_mv {x x' : Int} (h : Tr R ig x x') : mvI (placesL (keptN R ig R.length) (keptN R ig R.length).length) x = mvI (sameL (keptN R ig R.length).length) x' := by
  unfold mvI
  rcases h with ⟨rfl, rfl⟩ | ⟨i, hi, hk, rfl, rfl⟩
  · rw [if_pos rfl, if_pos rfl]
  · rw [if_neg (by omega), if_neg (by omega), places_look hi hk, same_look (show rk R ig i < (keptN R ig R.length).length from rk_lt hk hi)]
/-- the plain law -/
theorem ans_same {ig' : Int → Bool} (hig : ∀ g, ig' g = false) {mask : Int} (Ts : List Tst) {i : Nat} (hi : i < R.length) (hk : kp R ig i = true) :
    ansM R ig mask Ts (placesL (keptN R ig R.length) (keptN R ig R.length).length) (i : Int) = ansM (shortR R ig) ig' mask Ts (sameL (keptN R ig R.length).length) (rk R ig i : Int) := by
  unfold ansM
  rw [tr_mv (tr_nb1 hig hi hk), tr_mv (tr_nb2 hig hi), tr_mv (tr_last hig (.inl rfl) Ts i hi hk), tr_mv (tr_last hig (.inr rfl) Ts i hi hk)]
  congr 1
  unfold inM
  cases Ts with
  | nil => rfl
  | cons T r =>
    dsimp only
    rw [Int.toNat_natCast, Int.toNat_natCast, short_at hk hi]
    split
    · rcases tr_in hig (mask := mask) r [] i (fun j hj => by rw [List.mem_singleton.mp hj]; exact ⟨hi, hk⟩) with ⟨e1, e2⟩ | ⟨ls, hl, e1, e2⟩
      · simp only [List.nil_append, List.map_cons, List.map_nil] at e1 e2
        rw [show (((i : Nat) : Int)) = Int.ofNat i from rfl, e1, e2]
        rfl
      · simp only [List.nil_append, List.map_cons, List.map_nil] at e1 e2
        rw [show (((i : Nat) : Int)) = Int.ofNat i from rfl, e1, e2, Option.map_some, Option.map_some, List.map_map, List.map_map]
        congr 1
        refine List.map_congr_left fun j hj => ?_
        obtain ⟨h1, h2⟩ := hl j hj
        exact (places_look h1 h2 _).trans (same_look (show rk R ig j < (keptN R ig R.length).length from rk_lt h2 h1) _).symm
    · rfl
end
/-- the law's own reading of the flag -/
noncomputable def lawIgn (n a : Int) (i : Bool) (flag : Int) : Bool :=
  if (n = 1 ∨ n = 2 ∨ n = 3) ∧ (flag.fdiv (2 ^ n.toNat)).fmod 2 = 1 then true
  else if n ≠ 3 then false
  else if (flag.fdiv 16).fmod 2 = 1 then !i
  else decide (0 < flag.fdiv 256) && decide (a ≠ flag.fdiv 256)
noncomputable def projIgn (n a : Int) (i : Bool) (flag : Int) : Bool :=
  if Builtin.bitAnd flag (bitM (glyM n)) ≠ 0 then true
  else if glyM n ≠ 3 then false
  else if Builtin.bitAnd flag 16 ≠ 0 then !i
  else decide (0 < (flag.fdiv 256).fmod 256) && decide (a ≠ (flag.fdiv 256).fmod 256)
theorem bit_2 : ∀ f : Fin 768, decide (Builtin.bitAnd (f.val : Int) 2 ≠ 0) = decide (((f.val : Int).fdiv 2).fmod 2 = 1) := by decide +kernel
theorem bit_4 : ∀ f : Fin 768, decide (Builtin.bitAnd (f.val : Int) 4 ≠ 0) = decide (((f.val : Int).fdiv 4).fmod 2 = 1) := by decide +kernel
theorem bit_8 : ∀ f : Fin 768, decide (Builtin.bitAnd (f.val : Int) 8 ≠ 0) = decide (((f.val : Int).fdiv 8).fmod 2 = 1) := by decide +kernel
theorem bit_16 : ∀ f : Fin 768, decide (Builtin.bitAnd (f.val : Int) 16 ≠ 0) = decide (((f.val : Int).fdiv 16).fmod 2 = 1) := by decide +kernel
theorem bit_0 (f : Int) : Builtin.bitAnd f 0 = 0 := by
  unfold Builtin.bitAnd
  cases f <;> simp
theorem ign_eq {n a flag : Int} (i : Bool) (n0 : 0 ≤ n) (n1 : n < 5) (f0 : 0 ≤ flag) (f1 : flag < 768) : lawIgn n a i flag = projIgn n a i flag := by
  have b2 := bit_2 ⟨flag.toNat, by omega⟩
  have b4 := bit_4 ⟨flag.toNat, by omega⟩
  have b8 := bit_8 ⟨flag.toNat, by omega⟩
  have b16 := bit_16 ⟨flag.toNat, by omega⟩
  simp only [Int.toNat_of_nonneg f0, decide_eq_decide] at b2 b4 b8 b16
  have hh : (flag.fdiv 256).fmod 256 = flag.fdiv 256 := by
    rw [Int.fdiv_eq_ediv_of_nonneg _ (show (0 : Int) ≤ 256 by decide), Int.fmod_eq_emod_of_nonneg _ (show (0 : Int) ≤ 256 by decide)]
    omega
  have hn : n = 0 ∨ n = 1 ∨ n = 2 ∨ n = 3 ∨ n = 4 := by omega
  unfold lawIgn projIgn
  rw [hh]
  rcases hn with rfl | rfl | rfl | rfl | rfl
  · simp [glyM, bitM, bit_0]
  · simp [glyM, bitM, b2]
  · simp [glyM, bitM, b4]
  · simp [glyM, bitM, b8, b16]
  · simp [glyM, bitM, bit_0]
theorem ign_none (cs as : List (Int × Int)) (ms : List Int) (g : Int) : ignM cs as ms 0 0 g = false := by
  have e : ∀ x : Int, Builtin.bitAnd 0 x = 0 := fun x => by
    unfold Builtin.bitAnd
    cases x <;> simp
  unfold ignM
  rw [e, e, if_neg (fun h => h rfl)]
  by_cases h : glyM (kdfLook cs g 0) ≠ 3
  · rw [if_pos h]
  · rw [if_neg h, if_neg (fun h => h rfl)]
    rfl

theorem calm29 : True := by
  w_top off
  exact trivial
section
variable {n a flag : Int} {i : Bool}
theorem lawI_t (h : (flag.fdiv (2 ^ n.toNat)).fmod 2 = 1) (hn : n = 1 ∨ n = 2 ∨ n = 3) : Value.bool true = .bool (lawIgn n a i flag) := by unfold lawIgn; rw [if_pos ⟨hn, h⟩]
theorem lawI_12 (h : (flag.fdiv (2 ^ n.toNat)).fmod 2 ≠ 1) (hn : n ≠ 3) : Value.bool false = .bool (lawIgn n a i flag) := by unfold lawIgn; rw [if_neg (fun q => h q.2), if_pos hn]
theorem lawI_04 (h : ¬ (n = 1 ∨ n = 2 ∨ n = 3)) (hn : n ≠ 3) : Value.bool false = .bool (lawIgn n a i flag) := by unfold lawIgn; rw [if_neg (fun q => h q.1), if_pos hn]
theorem lawI_3a (h : (flag.fdiv (2 ^ Int.toNat 3)).fmod 2 ≠ 1) (h2 : (flag.fdiv 16).fmod 2 = 1) : Value.bool (!i) = .bool (lawIgn 3 a i flag) := by unfold lawIgn; rw [if_neg (fun q => h q.2), if_neg (fun q => q rfl), if_pos h2]
theorem lawI_3b (h : (flag.fdiv (2 ^ Int.toNat 3)).fmod 2 ≠ 1) (h2 : (flag.fdiv 16).fmod 2 ≠ 1) (h3 : 0 < flag.fdiv 256) : Value.bool (a != flag.fdiv 256) = .bool (lawIgn 3 a i flag) := by
  unfold lawIgn; rw [if_neg (fun q => h q.2), if_neg (fun q => q rfl), if_neg h2, decide_eq_true h3, Bool.true_and]; congr 1; rw [Bool.eq_iff_iff]; simp
theorem lawI_3c (h : (flag.fdiv (2 ^ Int.toNat 3)).fmod 2 ≠ 1) (h2 : (flag.fdiv 16).fmod 2 ≠ 1) (h3 : ¬ 0 < flag.fdiv 256) : Value.bool (decide (0 < flag.fdiv 256)) = .bool (lawIgn 3 a i flag) := by
  unfold lawIgn; rw [if_neg (fun q => h q.2), if_neg (fun q => q rfl), if_neg h2, decide_eq_false h3, Bool.false_and]
theorem lawI_3d (h : (flag.fdiv (2 ^ Int.toNat 3)).fmod 2 ≠ 1) (h2 : (flag.fdiv 16).fmod 2 ≠ 1) (h3 : ¬ 0 < flag.fdiv 256) : Value.bool false = .bool (lawIgn 3 a i flag) := by
  unfold lawIgn; rw [if_neg (fun q => h q.2), if_neg (fun q => q rfl), if_neg h2, decide_eq_false h3, Bool.false_and]
end
section
theorem row29_1 : True := by
  k_with "W:execs nil" => ((with_reducible rename @Eq Nat 29 29 => mk29); refine wpAny_execs_nil ?_)
  exact trivial
theorem row29_2 : True := by
  k_with "W:execs cons" => ((with_reducible rename @Eq Nat 29 29 => mk29); ((with_reducible refine wpAny_execs_cons ?_); try dsimp only))
  exact trivial
theorem lawign_con {w : World} {mean : ExcName → Option Value} {mg mb : Str → Option Value} {news : Led} {n a flag : Int} {tn ta tf : Tok} {i : Bool} (n0 : 0 ≤ n) (n1 : n < 5) :
    Con w mean mg mb 2 16 401 [.int n tn, .int a ta, .bool i, .int flag tf] news (RB news (lawIgn n a i flag)) := by
  have mk29 := @rfl Nat 29
  have hn : n = 0 ∨ n = 1 ∨ n = 2 ∨ n = 3 ∨ n = 4 := by omega
  unfold Con; intro dp un gd cn csc a0 ccd cl outer A₀ base h₀ L m s Q E B F X N T hk hdp hun hret
  rcases hn with rfl | rfl | rfl | rfl | rfl
  all_goals ktn_open
  all_goals exact hret _ _ _ _ (by k_asm) (by k_asm) ⟨by first | exact lawI_t (by assumption) (by decide) | exact lawI_12 (by assumption) (by decide) | exact lawI_04 (by decide) (by decide) | exact lawI_3a (by assumption) (by assumption) | exact lawI_3b (by assumption) (by assumption) (by assumption) | exact lawI_3c (by assumption) (by assumption) (by assumption) | exact lawI_3d (by assumption) (by assumption) (by assumption), by ktd_sub⟩
end
theorem row29_3 : True := by
  k_with "W:call ref" => ((k_here; (with_reducible show wpAny _ _ (call (Value.ref 401) _) _ _ _); k_dflt (refine' Con.useB (lawign_con ?c1 ?c2) ?k1 ?k2 ?k3 ?k4 ?k5 ?kK ?kd ?ku ?_; tb_start; (case c1 => k_asm); (case c2 => k_asm); k_whole); intro x1ᵣ x2ᵣ x3ᵣ x4ᵣ; (try k_sweep); (try k_fold)))
  exact trivial

theorem calm30 : True := by
  w_top off
  exact trivial
/-- the tape's own list, beside the tape at tp, in a ledger of any kind -/
structure TapeB (rest : Led) (tp cl : Addr) (ws : List Value) (ns : List Int) (k : Nat) : Prop where
  hc : (cl, lstO ws k) ∈ rest
  hw : IntsAre ws ns
  h0 : 0 < ns.length
  h60 : ns.length ≤ 60
  hoff : ∀ p ∈ rest, p.1 ≠ tp
theorem TapeB.hne {rest : Led} {tp cl : Addr} {ws : List Value} {ns : List Int} {k : Nat} (H : TapeB rest tp cl ws ns k) : cl ≠ tp := H.hoff _ H.hc
theorem allLt_ne1 {L' tp : Nat} {rest : Led} (h : tp < L' ∧ AllLt L' rest) : ∀ p ∈ rest, @Ne Nat p.1 (L' + 1) := fun p hp => Nat.ne_of_lt (Nat.lt_succ_of_lt (tb_ltOf h.2 p hp))
section
theorem row30_1 : True := by
  k_with "W:call ref" => ((with_reducible rename TapeB _ _ _ _ _ _ => H); (k_here; (with_reducible show wpAny _ _ (call (Value.ref 394) _) _ _ _); k_dflt (refine' draw_use ?k1 ?k2 ?k3 ?k4 ?k5 ?kK ?kd ?ku ?kU ?kc (TapeB.hne ?kT) (TapeB.hw ?kT) (TapeB.h0 ?kT) (TapeB.h60 ?kT) ?ka ?kb ?kl ?km ?_; (case kT => k_asm); tb_start; (case kU => k_updF); (case kc => k_mem); (case ka => omega); (case kb => omega); (case kl => decide); (case km => decide); k_whole); intro x1ᵣ x2ᵣ x3ᵣ x4ᵣ x5ᵣ x6ᵣ x7ᵣ x8ᵣ x9ᵣ; (try dsimp only at x9ᵣ); (try (have x10ᵣ := allLt_ne1 (by assumption))); (try k_sweep); (try k_fold)))
  exact trivial
 local macro_rules | `(tactic| k_room) => `(tactic| ktr_room)
theorem comp_fltB {prog : Program} {w : World} {A : Around} {h₀ : Heap} {L : Addr} {m : Str → Option Value} {env : Env} {ct elt : Expr} {x : Str} {scope : Scope} {cll : List (Str × Addr)} {s : Shared} {S : Led → Prop} {Fin : List Value → Led → Prop} {n : Nat} {news : Led} {b : Int} (_ : b < 256)
    (turn : ∀ (i : Nat) ys ti I oI C oC D (m₂ : Str → Option Value) h tk (E' : Value → Shared → Prop), i < n → LCg.NsObj oC m₂ → m₂ x = some (.int (i : Int) ti) → Fr h₀ L h m → News h₀ L h ((I, oI) :: (C, oC) :: (D, LCg.lst ys) :: news) → LCg.Off3 I C D news → ((@Ne Nat I C) ∧ (@Ne Nat I D) ∧ (@Ne Nat C D)) → 0 ≤ (i : Int) → (i : Int) < (n : Int) →
      wpAny (model prog w) A (isTrue ct (compEnvC scope cll C env) (eval ct (compEnvC scope cll C env))) (fun ok s' => if ok = true then
        wpAny (model prog w) A (eval elt (compEnvC scope cll C env)) (LCg.CompEnd h₀ L m { s with heap := h, toks := tk } I oI C oC D (LCg.lst ys) S (fun y nw => bitP b i = true ∧ nw = news ∧ ∃ t, y = .int (i : Int) t)) E' s'
        else LCg.CompEnd h₀ L m { s with heap := h, toks := tk } I oI C oC D (LCg.lst ys) S (fun _ nw => bitP b i = false ∧ nw = news) Value.none s') E' { s with heap := h, toks := tk })
    (fin : ∀ ys, IntsAre ys (((List.range n).filter (bitP b)).map Int.ofNat) → Fin ys news) :
    LCt.CompRestT prog w A h₀ L m env ct elt x scope cll s S (fun i v => ∃ t, v = .int (0 + (i : Int)) t) Fin n 0 [] news := comp_flt (bitP b) turn fin
/-- what _law_test gives: a test at a new place -/
noncomputable def RT (w : World) (rest rest' : Led) (tp cl : Addr) (at' : Int) (n : Nat) (r : Value) (n' : Led) : Prop :=
  ∃ t T ta' add, r = .ref t ∧ TestAt w (add ++ rest') t T ∧ (∀ p ∈ add, tp < p.1 ∧ ∀ q ∈ rest, q.1 < p.1) ∧ ∀ p ∈ (tp, lstO [.ref cl, .int (at' + 1 + 1) ta'] n) :: (add ++ rest), p ∈ n'
theorem bits_yes {h₀ : Heap} {L I C D : Addr} {m : Str → Option Value} {s₁ : Shared} {oI oC oD : Obj} {b : Int} {i : Nat} {t : Tok} {c1 c2 : Addr × Obj} {r : Led} {h' : Heap} {tk : Nat}
    (F : Fr h₀ L h' m) (N : News h₀ L h' ((I, oI) :: (C, oC) :: (D, oD) :: c1 :: c2 :: r)) (off : LCg.Off3 I C D (c1 :: c2 :: r)) (hp : (b.fdiv (2 ^ ((i : Nat) : Int).toNat)).fmod 2 = 1) :
    LCg.CompEnd h₀ L m s₁ I oI C oC D oD (fun _ => True) (fun y nw => bitP b i = true ∧ nw = c1 :: c2 :: r ∧ ∃ t, y = .int (i : Int) t) (.int (i : Int) t) { s₁ with heap := h', toks := tk } :=
  LCg.CompEnd.intro F N _ (fun _ h => h) off trivial ⟨decide_eq_true hp, rfl, _, rfl⟩
theorem bits_no {h₀ : Heap} {L I C D : Addr} {m : Str → Option Value} {s₁ : Shared} {oI oC oD : Obj} {b : Int} {i : Nat} {c1 c2 : Addr × Obj} {r : Led} {h' : Heap} {tk : Nat}
    (F : Fr h₀ L h' m) (N : News h₀ L h' ((I, oI) :: (C, oC) :: (D, oD) :: c1 :: c2 :: r)) (off : LCg.Off3 I C D (c1 :: c2 :: r)) (hp : (b.fdiv (2 ^ ((i : Nat) : Int).toNat)).fmod 2 ≠ 1) :
    LCg.CompEnd h₀ L m s₁ I oI C oC D oD (fun _ => True) (fun _ nw => bitP b i = false ∧ nw = c1 :: c2 :: r) Value.none { s₁ with heap := h', toks := tk } :=
  LCg.CompEnd.intro F N _ (fun _ h => h) off trivial ⟨decide_eq_false hp, rfl⟩
theorem RT.gly {w : World} {rest rest' : Led} {tp cl : Addr} {at' : Int} {n : Nat} {L' t : Nat} {o' : Obj} {ts tv tb : Tok} {v : Int} {j : Nat} (l : L' < t ∧ tp < t ∧ AllLt t rest) :
    RT w rest rest' tp cl at' n (.ref t) ((t, tupO [.str (Str.ofString "glyph") ts, .int v tv] j) :: (L', o') :: (tp, lstO [.ref cl, .int (at' + 1 + 1) tb] n) :: rest) :=
  ⟨t, _, tb, [_], rfl, .gly List.mem_cons_self, List.forall_mem_cons.mpr ⟨⟨l.2.1, tb_ltOf l.2.2⟩, List.forall_mem_nil _⟩, by simp only [List.cons_append, List.nil_append]; exact List.forall_mem_cons.mpr ⟨by k_mem, List.forall_mem_cons.mpr ⟨by k_mem, fun p hp => by simp only [List.mem_cons, hp, or_true]⟩⟩⟩
theorem RT.cls {w : World} {rest rest' : Led} {tp cl kn : Addr} {at' : Int} {n : Nat} {L' t : Nat} {o' : Obj} {ts tv tb : Tok} {v : Int} {j : Nat} {c : List (Int × Int)} (hkn : ClsAt w rest' kn c) (l : L' < t ∧ tp < t ∧ AllLt t rest) :
    RT w rest rest' tp cl at' n (.ref t) ((t, tupO [.str (Str.ofString "class") ts, .ref kn, .int v tv] j) :: (L', o') :: (tp, lstO [.ref cl, .int (at' + 1 + 1) tb] n) :: rest) :=
  ⟨t, _, tb, [_], rfl, .cls List.mem_cons_self (hkn.mono fun p hp => List.mem_cons_of_mem _ hp), List.forall_mem_cons.mpr ⟨⟨l.2.1, tb_ltOf l.2.2⟩, List.forall_mem_nil _⟩, by simp only [List.cons_append, List.nil_append]; exact List.forall_mem_cons.mpr ⟨by k_mem, List.forall_mem_cons.mpr ⟨by k_mem, fun p hp => by simp only [List.mem_cons, hp, or_true]⟩⟩⟩
theorem RT.cov {w : World} {rest rest' : Led} {tp cl : Addr} {at' : Int} {n : Nat} {L' t x d tu D : Nat} {o' oD : Obj} {ts tb : Tok} {es : List DictEntry} {j jd ju : Nat} {ys : List Value} {b : Int} (hI : IntsAre ys (bitsL b))
    (g1 : getL (Str.ofString "glyphs") es = some (some (.ref tu))) (g2 : getL (Str.ofString "index") es = some none) (g3 : getL (Str.ofString "has") es = some none)
    (l4 : x < t ∧ d < t ∧ tu < t ∧ D < t ∧ L' < t ∧ tp < t ∧ AllLt t rest) (l2 : tu < d ∧ D < d ∧ L' < d ∧ tp < d ∧ AllLt d rest) (l3 : d < x) (l1 : D < tu ∧ L' < tu ∧ tp < tu ∧ AllLt tu rest) :
    RT w rest rest' tp cl at' n (.ref t) ((t, tupO [.str (Str.ofString "cover") ts, .ref x] j) :: (x, instObj 335 d) :: (d, dictOf es jd) :: (tu, tupO ys ju) :: (D, oD) :: (L', o') :: (tp, lstO [.ref cl, .int (at' + 1 + 1) tb] n) :: rest) := by
  refine ⟨t, _, tb, [(t, tupO [.str (Str.ofString "cover") ts, .ref x] j), (x, instObj 335 d), (d, dictOf es jd), (tu, tupO ys ju)], rfl, .cov (gs := bitsL b) List.mem_cons_self ⟨⟨d, tu, ys, ju, es, jd, by simp only [List.cons_append, List.nil_append]; k_mem, by simp only [List.cons_append, List.nil_append]; k_mem, g1, g2, g3, by simp only [List.cons_append, List.nil_append]; k_mem, hI⟩, bitsL_len b, bitsL_sorted b⟩, ?_, ?_⟩
  · have hx : ∀ q ∈ rest, q.1 < x := fun q hq => Nat.lt_trans (tb_ltOf l2.2.2.2.2 q hq) l3
    refine List.forall_mem_cons.mpr ⟨⟨l4.2.2.2.2.2.1, tb_ltOf l4.2.2.2.2.2.2⟩, List.forall_mem_cons.mpr ⟨⟨Nat.lt_trans l2.2.2.2.1 l3, hx⟩, List.forall_mem_cons.mpr ⟨⟨l2.2.2.2.1, tb_ltOf l2.2.2.2.2⟩, List.forall_mem_cons.mpr ⟨⟨l1.2.2.1, tb_ltOf l1.2.2.2⟩, List.forall_mem_nil _⟩⟩⟩⟩
  · simp only [List.cons_append, List.nil_append]
    repeat (first | refine List.forall_mem_cons.mpr ⟨by k_mem, ?_⟩ | exact (fun p hp => by simp only [List.mem_cons, hp, or_true]))
theorem test_con {w : World} {mean : ExcName → Option Value} {mg mb : Str → Option Value} {rest rest' : Led} {tp cl kn : Addr} {ws : List Value} {ns : List Int} {n k : Nat} {at' : Int} {ta : Tok} {c : List (Int × Int)}
    (H : TapeB rest tp cl ws ns k) (ha : 0 ≤ at') (ha2 : at' ≤ 90) (hkn : ClsAt w rest' kn c) (hs : ∀ p ∈ rest', p ∈ rest) :
    Con w mean mg mb 16 128 406 [.ref tp, .ref kn] ((tp, lstO [.ref cl, .int at' ta] n) :: rest) (RT w rest rest' tp cl at' n) := by
  k_with "my cf" => (walk_at "my ct"; (rename @LT.lt Int _ _ 256 => hb9); k_dflt (refine' comp_fltB hb9 (fun i ys ti I oI C oC D m₂ h tk E' hi hC hx F' N' off ne ha hb => ?turn) (fun ys hI => ?fin)); (case' turn => ((try simp only [LCg.Off3] at off); (try dsimp only at N'); k_sweep; (try k_fold))); (case' fin => ((try k_fold))))
  have hc := H.hc
  have hoff := H.hoff
  unfold Con; intro dp un gd cn csc a0 ccd cl' outer A₀ base h₀ L m s Q E B F X N T hk hdp hun hret
  tbn_conj
  case' fin => k_steps
  all_goals first
    | exact bits_yes (by assumption) (by assumption) off (by assumption)
    | exact bits_no (by k_asm) (by k_asm) off (by assumption)
    | exact hret _ _ _ _ (by k_asm) (by k_asm) (.gly (by assumption))
    | exact hret _ _ _ _ (by k_asm) (by k_asm) (.cls hkn (by assumption))
    | exact hret _ _ _ _ (by k_asm) (by k_asm) (.cov hI (by with_unfolding_all rfl) (by with_unfolding_all rfl) (by with_unfolding_all rfl) (by assumption) (by assumption) (by assumption) (by assumption))
end

theorem calm31 : True := by
  w_top off
  exact trivial
theorem test_use {w : World} {mean : ExcName → Option Value} {mg mb : Str → Option Value} {tp cl kn : Addr} {ws : List Value} {ns : List Int} {n k : Nat} {at' : Int} {ta : Tok} {c : List (Int × Int)} {rest' : Led}
    {dp un : Nat} {gd : Option (List Code)} {cn : Str} {csc : Scope} {a : Addr} {ccd : Value} {cll : List (Str × Addr)} {outer : List Env} {A₀ : Around} {base h₀ : Heap} {L : Addr} {m : Str → Option Value} {s : Shared} {Q E : Value → Shared → Prop} {news : Led} {g : Obj → Led}
    (B : Below A₀ base outer h₀) (F : Fr h₀ L s.heap m) (X : (heapK w.params).In h₀) (N : News h₀ L s.heap news) (T : Top viewV (looseW viewV []) mean mg mb h₀) (hk : csc.kind = .function) (hdp : dp + 16 < recursionLimit) (hun : un + 128 < cLine)
    (U : UpdF tp (lstO [.ref cl, .int at' ta] n) news g) (hc : (cl, lstO ws k) ∈ news) (hne : cl ≠ tp) (hw : IntsAre ws ns) (h0 : 0 < ns.length) (h60 : ns.length ≤ 60) (ha : 0 ≤ at') (ha2 : at' ≤ 90) (hkn : ClsAt w rest' kn c) (hs : ∀ p ∈ rest', p ∈ news) (ho : ∀ p ∈ rest', p.1 ≠ tp)
    (ret : ∀ t T ta' add h' tk', TestAt w (add ++ rest') t T → (∀ p ∈ add, ∀ q ∈ news, @LT.lt Nat _ q.1 p.1) → Fr h₀ L h' m → News h₀ L h' (add ++ g (lstO [.ref cl, .int (at' + 1 + 1) ta'] n)) → Q (.ref t) { s with heap := h', toks := tk' }) :
    wpAny (model Pg w) (ktrTop dp un gd cn csc L a ccd cll outer) (call (.ref 406) [.ref tp, .ref kn]) Q E s := by
  obtain ⟨pre, post, rfl, hg, hpre, hpost⟩ := U.split
  have hoff : ∀ p ∈ pre ++ post, p.1 ≠ tp := fun p hp => (List.mem_append.mp hp).elim (hpre p) (hpost p)
  have N' : News h₀ L s.heap ((tp, lstO [.ref cl, .int at' ta] n) :: (pre ++ post)) := cb_drop N fun p hp => by
    rcases List.mem_cons.mp hp with rfl | hp
    · exact List.mem_append.mpr (.inr List.mem_cons_self)
    · exact (List.mem_append.mp hp).elim (fun h => List.mem_append.mpr (.inl h)) fun h => List.mem_append.mpr (.inr (List.mem_cons_of_mem _ h))
  have out : ∀ p ∈ pre ++ (tp, lstO [.ref cl, .int at' ta] n) :: post, p.1 ≠ tp → p ∈ pre ++ post := fun p hp e => by
    rcases List.mem_append.mp hp with h | h
    · exact List.mem_append.mpr (.inl h)
    · rcases List.mem_cons.mp h with h | h
      · exact absurd (congrArg Prod.fst h) e
      · exact List.mem_append.mpr (.inr h)
  refine (test_con (rest := pre ++ post) ⟨out _ hc hne, hw, h0, h60, hoff⟩ ha ha2 hkn fun p hp => out p (hs p hp) (ho p hp)).use B F X N' T hk hdp hun fun r n' h' tk' F' Nn hr => ?_
  obtain ⟨t, T, ta', add, rfl, hT, hlt, hsub⟩ := hr
  refine ret t T ta' add h' tk' hT (fun p hp q hq => ?_) F' (cb_drop Nn fun p hp => hsub p ?_)
  · rcases List.mem_append.mp hq with h | h
    · exact (hlt p hp).2 q (List.mem_append.mpr (.inl h))
    · rcases List.mem_cons.mp h with rfl | h
      · exact (hlt p hp).1
      · exact (hlt p hp).2 q (List.mem_append.mpr (.inr h))
  · rw [hg] at hp
    rcases List.mem_append.mp hp with h | h
    · exact List.mem_cons_of_mem _ (List.mem_append.mpr (.inl h))
    · rcases List.mem_append.mp h with h | h
      · exact List.mem_cons_of_mem _ (List.mem_append.mpr (.inr (List.mem_append.mpr (.inl h))))
      · rcases List.mem_cons.mp h with rfl | h
        · exact List.mem_cons_self
        · exact List.mem_cons_of_mem _ (List.mem_append.mpr (.inr (List.mem_append.mpr (.inr h))))
theorem TestsIn.snoc {w : World} {news : Led} {vs : List Value} {Ts : List Tst} {t : Addr} {T : Tst} (H : TestsIn w news vs Ts) (h : TestAt w news t T) (hl : Ts.length < 8) : TestsIn w news (vs ++ [.ref t]) (Ts ++ [T]) := by
  refine ⟨by rw [List.length_append, List.length_append, H.len]; rfl, fun i r e => ?_, by rw [List.length_append]; exact hl⟩
  by_cases hi : i < Ts.length
  · rw [List.getElem?_append_left hi] at e
    obtain ⟨a, h1, h2⟩ := H.it i r e
    exact ⟨a, by rw [List.getElem?_append_left (by rw [H.len]; exact hi)]; exact h1, h2⟩
  · have hi' : i = Ts.length := by
      have := (List.getElem?_eq_some_iff.mp e).1
      rw [List.length_append] at this
      simp only [List.length_cons, List.length_nil] at this
      omega
    subst hi'
    rw [List.getElem?_concat_length] at e
    cases e
    exact ⟨t, by rw [← H.len]; exact List.getElem?_concat_length, h⟩
/-- a comprehension of tests -/
theorem comp_tests {prog : Program} {w w' : World} {A : Around} {h₀ : Heap} {L : Addr} {m : Str → Option Value} {env : Env} {elt : Expr} {x : Str} {scope : Scope} {cll : List (Str × Addr)} {s : Shared} {S : Led → Prop} {P : Nat → Value → Prop} {Fin : List Value → Led → Prop}
    {tp cl kn : Addr} {ws : List Value} {ns : List Int} {k : Nat} {rest : Led} {c : List (Int × Int)} {a0 : Int} {ta0 : Tok} {N : Nat} {g : Int → Tok → Led → Led} (HT : TapeIn L rest tp cl ws ns k) (hkn : ClsAt w' rest kn c) (hN : N ≤ 8) (ha0 : 0 ≤ a0)
    (turn : ∀ (i : Nat) ys at' ta r I oI C oC D (m₂ : Str → Option Value) h tk (E' : Value → Shared → Prop), i < N → LCg.NsObj oC m₂ → Fr h₀ L h m → News h₀ L h ((I, oI) :: (C, oC) :: (D, LCg.lst ys) :: g at' ta r) → LCg.Off3 I C D (g at' ta r) → ((@Ne Nat I C) ∧ (@Ne Nat I D) ∧ (@Ne Nat C D)) → TapeIn L r tp cl ws ns k → ClsAt w' r kn c → 0 ≤ at' → at' ≤ a0 + 16 →
      wpAny (model prog w) A (eval elt (compEnvC scope cll C env)) (LCg.CompEnd h₀ L m { s with heap := h, toks := tk } I oI C oC D (LCg.lst ys) S (fun y nw => ∃ t T ta' add, y = .ref t ∧ nw = g (at' + 1 + 1) ta' (add ++ r) ∧ TestAt w' (add ++ r) t T ∧ ∀ p ∈ add, @Ne Nat p.1 tp ∧ OffC L p.1)) E' { s with heap := h, toks := tk })
    (fin : ∀ ys r Ts at' ta, (∀ p ∈ rest, p ∈ r) → TapeIn L r tp cl ws ns k → TestsIn w' r ys Ts → Ts.length = N → Fin ys (g at' ta r)) :
    LCg.CompRest prog w A h₀ L m env elt x scope cll s S P Fin N 0 [] (g a0 ta0 rest) := by
  refine comp_ind (n := N) (fun i ys nw => ∃ r Ts at' ta, nw = g at' ta r ∧ (∀ p ∈ rest, p ∈ r) ∧ TapeIn L r tp cl ws ns k ∧ TestsIn w' r ys Ts ∧ Ts.length = i ∧ 0 ≤ at' ∧ at' ≤ a0 + 2 * (i : Int)) ?_ ?_ N 0 [] _ (by omega) ⟨rest, [], a0, ta0, rfl, fun _ h => h, HT, ⟨rfl, fun i T e => by simp at e, by decide⟩, rfl, ha0, by omega⟩
  · rintro ys nw ⟨r, Ts, at', ta, rfl, h1, h2, h3, h4, h5, h6⟩
    exact fin ys r Ts at' ta h1 h2 h3 h4
  · rintro i ys nw v I oI C oC D m₂ h tk E' hi - ⟨r, Ts, at', ta, rfl, h1, h2, h3, h4, h5, h6⟩ hC hx F Nn o3 ne
    refine wpAny_mono (turn i ys at' ta r I oI C oC D m₂ h tk E' hi hC F Nn o3 ne h2 (hkn.mono h1) h5 (by omega)) (fun y s₂ q => ?_) fun _ _ e => e
    obtain ⟨h', tk', nw, rfl, F', N', off, hS, t, T, ta', add, rfl, rfl, hT, hoff⟩ := q
    refine ⟨h', tk', _, rfl, F', N', off, hS, add ++ r, Ts ++ [T], at' + 1 + 1, ta', rfl, fun p hp => List.mem_append.mpr (.inr (h1 p hp)), h2.app add hoff, (h3.mono fun p hp => List.mem_append.mpr (.inr hp)).snoc hT (by omega), ?_, by omega, by omega⟩
    rw [List.length_append, h4]; rfl
theorem off3_of {I C D : Nat} : ∀ {l : Led}, (∀ p ∈ l, @Ne Nat p.1 I ∧ @Ne Nat p.1 C ∧ @Ne Nat p.1 D) → LCg.Off3 I C D l
  | [], _ => trivial
  | p :: r, h => ⟨h p List.mem_cons_self, off3_of fun q hq => h q (List.mem_cons_of_mem _ hq)⟩
theorem tests_end {w : World} {h₀ : Heap} {L I C D t tp cl : Addr} {m : Str → Option Value} {s₁ : Shared} {oI oC : Obj} {ys : List Value} {o1 o2 o3 o4 o5 o6 o7 : Obj} {at' : Int} {ta ta' : Tok} {n : Nat} {r add : Led} {h' : Heap} {tk : Nat} {T : Tst}
    (F : Fr h₀ L h' m) (N : News h₀ L h' (add ++ ((I, oI) :: (C, oC) :: (D, LCg.lst ys) :: lawLed L o1 o2 o3 o4 o5 o6 o7 tp cl (at' + 1 + 1) ta' n r))) (off : LCg.Off3 I C D (lawLed L o1 o2 o3 o4 o5 o6 o7 tp cl at' ta n r))
    (lt : ∀ p ∈ add, ∀ q ∈ (I, oI) :: (C, oC) :: (D, LCg.lst ys) :: lawLed L o1 o2 o3 o4 o5 o6 o7 tp cl at' ta n r, @LT.lt Nat _ q.1 p.1) (hT : TestAt w (add ++ r) t T) :
    LCg.CompEnd h₀ L m s₁ I oI C oC D (LCg.lst ys) (fun _ => True) (fun y nw => ∃ t T ta' add, y = .ref t ∧ nw = lawLed L o1 o2 o3 o4 o5 o6 o7 tp cl (at' + 1 + 1) ta' n (add ++ r) ∧ TestAt w (add ++ r) t T ∧ ∀ p ∈ add, @Ne Nat p.1 tp ∧ OffC L p.1) (.ref t) { s₁ with heap := h', toks := tk } := by
  have l1 : ∀ p ∈ add, @Ne Nat p.1 I ∧ @Ne Nat p.1 C ∧ @Ne Nat p.1 D := fun p hp => ⟨Nat.ne_of_gt (lt p hp _ (by k_mem)), Nat.ne_of_gt (lt p hp (C, oC) (by k_mem)), Nat.ne_of_gt (lt p hp (D, LCg.lst ys) (by k_mem))⟩
  obtain ⟨f1, f2, f3, f4, f5, f6, f7, f8, f9⟩ := off
  have f9' := f9.mem
  refine LCg.CompEnd.intro F N (lawLed L o1 o2 o3 o4 o5 o6 o7 tp cl (at' + 1 + 1) ta' n (add ++ r)) ?_ ⟨f1, f2, f3, f4, f5, f6, f7, f8, off3_of fun p hp => (List.mem_append.mp hp).elim (l1 p) fun h => ⟨(f9' p h).1, (f9' p h).2.1, (f9' p h).2.2⟩⟩ trivial ⟨t, T, ta', add, rfl, rfl, hT, fun p hp => off_lt (lt p hp (L + 1 + 1 + 1 + 1 + 1 + 1 + 1, o7) (by k_mem)) (lt p hp (tp, lstO [.ref cl, .int at' ta] n) (by k_mem))⟩
  intro p hp
  simp only [List.mem_cons, List.mem_append] at hp ⊢
  rcases hp with h | h | h | h | h | h | h | h | h | h | h | h | h <;> simp [h]
theorem row31_1 : True := by
  k_with "W:call ref" => ((k_here; (with_reducible show wpAny _ _ (call (Value.ref 406) _) _ _ _); k_dflt (refine' test_use ?k1 ?k2 ?k3 ?k4 ?k5 ?kK ?kd ?ku ?kU ?kc (TapeIn.hne ?kT) (TapeIn.hw ?kT) (TapeIn.h0 ?kT) (TapeIn.h60 ?kT) ?ka ?kb ?kn ?ks (TapeIn.hoff ?kT) ?_; (case kn => k_asm); (case kT => k_asm); tb_start; (case kU => k_updF); (case kc => k_mem); (case ka => omega); (case kb => omega); (case ks => exact (fun p hp => by simp only [List.mem_cons, hp, or_true])); k_whole); intro x1ᵣ x2ᵣ x3ᵣ x4ᵣ x5ᵣ x6ᵣ x7ᵣ x8ᵣ x9ᵣ x10ᵣ; (try dsimp only at x10ᵣ)))
  exact trivial

theorem calm32 : True := by
  w_top off
  exact trivial
theorem RowIn.snoc {news : Led} {vs : List Value} {R : List Rw} {a : Addr} {r : Rw} (H : RowIn news vs R) (h : InfoAt news a r) (hl : R.length < 8) : RowIn news (vs ++ [.ref a]) (R ++ [r]) := by
  refine ⟨by rw [List.length_append, List.length_append, H.len]; rfl, fun i q e => ?_, by rw [List.length_append]; exact hl⟩
  by_cases hi : i < R.length
  · rw [List.getElem?_append_left hi] at e
    obtain ⟨a, h1, h2⟩ := H.it i q e
    exact ⟨a, by rw [List.getElem?_append_left (by rw [H.len]; exact hi)]; exact h1, h2⟩
  · have hi' : i = R.length := by
      have := (List.getElem?_eq_some_iff.mp e).1
      rw [List.length_append] at this
      simp only [List.length_cons, List.length_nil] at this
      omega
    subst hi'
    rw [List.getElem?_concat_length] at e
    cases e
    exact ⟨a, by rw [← H.len]; exact List.getElem?_concat_length, h⟩
theorem append_R {prog : Program} {w : World} {A : Around} {E : Value → Shared → Prop} {s : Shared} {h₀ : Heap} {L D : Addr} {m : Str → Option Value} {news news' : Led} {ws : List Value} {n : Nat} {x : Value} {Q : Value → Shared → Prop} (F : Fr h₀ L s.heap m) (N : News h₀ L s.heap news)
    (U : Upd D (lstO ws n) (lstO (ws ++ [x]) (n + 1)) news news') (hz : ws.length ≤ 100)
    (h : ∀ h', Fr h₀ L h' m → News h₀ L h' news' → Q .none { s with heap := h' }) : wpAny (model prog w) A (call (.builtin "list.append") [.ref D, x]) Q E s := by
  refine append_K (its := ws.toArray) (n := n) F N (news' := news') ?_ (fun h' F' N' => h h' F' N') (by rw [List.size_toArray, sizeLine_eq]; omega)
  rw [List.push_toArray]
  exact U
theorem ne_nat {l : Led} {I : Addr} (h : ∀ p ∈ l, p.1 ≠ I) : ∀ p ∈ l, @Ne Nat p.1 I := h
/-- between the turns of the row -/
noncomputable def rowJ (L : Addr) (o1 o2 o3 o4 o5 o6 o7 : Obj) (tp cl : Addr) (n : Nat) (rest : Led) (ws : List Value) (ns : List Int) (k : Nat) (m₀ : Str → Option Value) (rw : Addr) (i : Nat) (m : Str → Option Value) (nx : Led) : Prop :=
  ∃ at' ta r vr kr R, nx = lawLed L o1 o2 o3 o4 o5 o6 o7 tp cl at' ta n ((rw, lstO vr kr) :: r) ∧ 0 ≤ at' ∧ at' ≤ 20 + 3 * (i : Int) ∧ TapeIn L r tp cl ws ns k ∧ @Ne Nat rw tp ∧ OffC L rw ∧ (∀ p ∈ r, @Ne Nat p.1 rw) ∧ (∀ p ∈ rest, p ∈ r) ∧ RowIn r vr R ∧ R.length = i ∧ (∀ x ∈ R, 0 ≤ x.g ∧ x.g < 8) ∧ ∀ z, z ≠ Str.ofString "k" → z ≠ Str.ofString "info" → m z = m₀ z
theorem row32_1 : True := by
  k_with "W:call builtin:list.append" => ((k_here; (with_reducible show wpAny _ _ (call (Value.builtin _) [Value.ref _, Value.ref _]) _ _ _); k_dflt (refine' append_R ?k1 ?k2 ?k3 ?k5 ?_; (case k1 => k_asm); (case k2 => k_asm); (case k3 => k_upd); (case k5 => omega); k_whole); intro x1ᵣ x2ᵣ x3ᵣ; (try k_sweep)))
  exact trivial
theorem row_end {h₀ : Heap} {L : Addr} {m₀ m' : Str → Option Value} {s₁ : Shared} {h' : Heap} {tk : Nat} {D x d II rw tp cl : Nat} {oD oI o1 o2 o3 o4 o5 o6 o7 : Obj} {at3 : Int} {ta3 : Tok} {n j kr' k i : Nat} {es : List DictEntry} {vr ws : List Value} {ns : List Int} {rest rr : Led} {R : List Rw} {g ma : Int} {S : Str} {tg tS tm : Tok}
    (F : Fr h₀ L h' m') (N : News h₀ L h' ((D, oD) :: (x, instObj 200 d) :: (d, dictOf es j) :: (II, oI) :: lawLed L o1 o2 o3 o4 o5 o6 o7 tp cl at3 ta3 n ((rw, lstO (vr ++ [.ref x]) kr') :: rr)))
    (g1 : getL (Str.ofString "glyph") es = some (some (.int g tg))) (g2 : getL (Str.ofString "kind") es = some (some (.str S tS))) (g3 : getL (Str.ofString "mask") es = some (some (.int ma tm))) (b0 : 0 ≤ g) (b1 : g < 8)
    (l1 : II < d ∧ L + 1 < d ∧ L + 1 + 1 < d ∧ L + 1 + 1 + 1 < d ∧ L + 1 + 1 + 1 + 1 < d ∧ L + 1 + 1 + 1 + 1 + 1 < d ∧ L + 1 + 1 + 1 + 1 + 1 + 1 < d ∧ L + 1 + 1 + 1 + 1 + 1 + 1 + 1 < d ∧ tp < d ∧ rw < d ∧ AllLt d rr) (l2 : d < x)
    (hne : @Ne Nat (L + 1) II ∧ @Ne Nat (L + 1 + 1) II ∧ @Ne Nat (L + 1 + 1 + 1) II ∧ @Ne Nat (L + 1 + 1 + 1 + 1) II ∧ @Ne Nat (L + 1 + 1 + 1 + 1 + 1) II ∧ @Ne Nat (L + 1 + 1 + 1 + 1 + 1 + 1) II ∧ @Ne Nat (L + 1 + 1 + 1 + 1 + 1 + 1 + 1) II ∧ @Ne Nat tp II ∧ @Ne Nat rw II ∧ ∀ p ∈ rr, @Ne Nat p.1 II)
    (lo : 0 ≤ at3) (hi : at3 ≤ 20 + 3 * (i : Int) + 3) (HT : TapeIn L rr tp cl ws ns k) (w1 : @Ne Nat rw tp) (w2 : OffC L rw) (w3 : ∀ p ∈ rr, @Ne Nat p.1 rw) (hsub : ∀ p ∈ rest, p ∈ rr) (hR : RowIn rr vr R) (hlen : R.length = i) (hi6 : i < 6) (hgs : ∀ x ∈ R, 0 ≤ x.g ∧ x.g < 8)
    (hm : ∀ z, z ≠ Str.ofString "k" → z ≠ Str.ofString "info" → m' z = m₀ z) :
    FEnd h₀ L II oI (rowJ L o1 o2 o3 o4 o5 o6 o7 tp cl n rest ws ns k m₀ rw (i + 1)) s₁ { s₁ with heap := h', toks := tk } := by
  obtain ⟨e0, e1, e2, e3, e4, e5, e6, e7, e8, e9, e10⟩ := l1
  obtain ⟨n1, n2, n3, n4, n5, n6, n7, n8, n9, n10⟩ := hne
  refine FEnd.intro (lawLed L o1 o2 o3 o4 o5 o6 o7 tp cl at3 ta3 n ((rw, lstO (vr ++ [.ref x]) kr') :: (x, instObj 200 d) :: (d, dictOf es j) :: rr)) F N ?_ ?_ ⟨at3, ta3, (x, instObj 200 d) :: (d, dictOf es j) :: rr, vr ++ [.ref x], kr', R ++ [⟨g, S, ma⟩], rfl, lo, by omega, (HT.cons (Nat.ne_of_gt e8) (OffC.of_lt e7)).cons (Nat.ne_of_gt (Nat.lt_trans e8 l2)) (OffC.of_lt (Nat.lt_trans e7 l2)), w1, w2, ?_, ?_, ?_, ?_, ?_, hm⟩
  · intro p hp
    simp only [List.mem_cons] at hp ⊢
    rcases hp with h | h | h | h | h | h | h | h | h | h | h | h | h <;> simp [h]
  · simp only [List.forall_mem_cons]
    exact ⟨n1, n2, n3, n4, n5, n6, n7, n8, n9, Nat.ne_of_gt (Nat.lt_trans e0 l2), Nat.ne_of_gt e0, n10⟩
  · simp only [List.forall_mem_cons]
    exact ⟨Nat.ne_of_gt (Nat.lt_trans e9 l2), Nat.ne_of_gt e9, w3⟩
  · intro p hp
    simp only [List.mem_cons, hsub p hp, or_true]
  · refine (hR.mono fun p hp => by simp only [List.mem_cons, hp, or_true]).snoc ⟨d, es, j, tg, tS, tm, by k_mem, by k_mem, g1, g2, g3⟩ (by omega)
  · rw [List.length_append, hlen]; rfl
  · intro y hy
    rcases List.mem_append.mp hy with hy | hy
    · exact hgs y hy
    · rw [List.mem_singleton.mp hy]; exact ⟨b0, b1⟩

theorem calm33 : True := by
  w_top off
  exact trivial
theorem CompSrc_rng {prog : Program} {w : World} {A : Around} {h₀ : Heap} {L : Addr} {m : Str → Option Value} {env : Env} {elt : Expr} {x : Str} {scope : Scope} {cl : List (Str × Addr)} {Fin : Shared → List Value → List (Addr × Obj) → Prop} {r : Addr} {b : Int} {t u v : Tok} {news : List (Addr × Obj)} {s₁ : Shared}
    (hh : A.handled = none) (F : Fr h₀ L s₁.heap m) (N : News h₀ L s₁.heap news) (hr : IsRange s₁.heap r 0 b 1 t u v) (h0 : 0 ≤ b) (h8 : b ≤ 8)
    (h : ∀ g, LCg.CompRest prog w A h₀ L m env elt x scope cl { s₁ with heap := g } (fun _ => True) (fun i v => ∃ t, v = .int (0 + (i : Int)) t) (Fin { s₁ with heap := g }) b.toNat 0 [] news) :
    LCg.CompSrc prog w A h₀ L m env elt x scope cl Fin (.ref r) s₁ :=
  LCg.CompSrc.range hh F N hr (small_one (by decide) (by decide) (by omega) (by omega)) (by rw [rangeSize_nat, Int.sub_zero]) (by rw [sizeLine_eq]; omega) h
/-- the cells, then the rest, of what the tests leave -/
theorem fold_tests {h₀ h : Heap} {L : Addr} {o1 o2 o3 o4 o5 o6 o7 : Obj} {tp cl : Addr} {at' : Int} {ta : Tok} {n : Nat} {r : Led} {a b : Addr × Obj}
    (N : News h₀ L h (a :: b :: lawLed L o1 o2 o3 o4 o5 o6 o7 tp cl at' ta n r)) :
    News h₀ L h ((L + 1, o1) :: (L + 1 + 1, o2) :: (L + 1 + 1 + 1, o3) :: (L + 1 + 1 + 1 + 1, o4) :: (L + 1 + 1 + 1 + 1 + 1, o5) :: (L + 1 + 1 + 1 + 1 + 1 + 1, o6) :: (L + 1 + 1 + 1 + 1 + 1 + 1 + 1, o7) :: a :: b :: (tp, lstO [.ref cl, .int at' ta] n) :: r) :=
  cb_drop N (swap_app [(L + 1, o1), (L + 1 + 1, o2), (L + 1 + 1 + 1, o3), (L + 1 + 1 + 1 + 1, o4), (L + 1 + 1 + 1 + 1 + 1, o5), (L + 1 + 1 + 1 + 1 + 1 + 1, o6), (L + 1 + 1 + 1 + 1 + 1 + 1 + 1, o7)] [a, b] ((tp, lstO [.ref cl, .int at' ta] n) :: r))

theorem calm34 : True := by
  w_top off
  exact trivial
/-- behind the kept -/
inductive P10 (w : World) (L : Addr) (m : Str → Option Value) (news : Led) : Prop
  | mk (o1 o2 o3 o4 o5 o6 o7 : Obj) (rest : List (Addr × Obj)) (b : Int) (cs hs : List Int) (gd : Addr) (fl q : Int) (tf tq : Tok) (rw : Addr) (vr : List Value) (kr : Nat) (R : List Rw) (tm : Tok) (tt : Addr) (vt : List Value) (kt : Nat) (Ts : List Tst) (mk : Int) (kl : Addr) (vk : List Value) (kk : Nat) (_ : news = (L + 1, o1) :: (L + 1 + 1, o2) :: (L + 1 + 1 + 1, o3) :: (L + 1 + 1 + 1 + 1, o4) :: (L + 1 + 1 + 1 + 1 + 1, o5) :: (L + 1 + 1 + 1 + 1 + 1 + 1, o6) :: (L + 1 + 1 + 1 + 1 + 1 + 1 + 1, o7) :: rest) (_ : (∀ p ∈ rest, OffC L p.1)) (_ : o6.data = .cell (some (.ref rw))) (_ : o7.data = .cell (some (.ref kl))) (_ : GdefM w rest gd (tabC cs 8) (tabC hs 8) (bitsL b)) (_ : (rw, lstO vr kr) ∈ rest) (_ : RowIn rest vr R) (_ : R.length = 6) (_ : (tt, tupO vt kt) ∈ rest) (_ : TestsIn w rest vt Ts) (_ : 0 < Ts.length) (_ : (kl, lstO vk kk) ∈ rest) (_ : IntsAre vk ((keptN R (ignM (tabC cs 8) (tabC hs 8) (bitsL b) fl q) R.length).map Int.ofNat)) (_ : m (Str.ofString "gdef") = some (.ref gd)) (_ : m (Str.ofString "flag") = some (.int fl tf)) (_ : m (Str.ofString "number") = some (.int q tq)) (_ : m (Str.ofString "mask") = some (.int mk tm)) (_ : m (Str.ofString "tests") = some (.ref tt)) : P10 w L m news
/-- between the turns of the kept -/
noncomputable def keptJ (L : Addr) (o1 o2 o3 o4 o5 o6 o7 : Obj) (rest : Led) (kl : Addr) (m₀ : Str → Option Value) (R : List Rw) (ig : Int → Bool) (i : Nat) (m : Str → Option Value) (nx : Led) : Prop :=
  ∃ vk kk, nx = (L + 1, o1) :: (L + 1 + 1, o2) :: (L + 1 + 1 + 1, o3) :: (L + 1 + 1 + 1 + 1, o4) :: (L + 1 + 1 + 1 + 1 + 1, o5) :: (L + 1 + 1 + 1 + 1 + 1 + 1, o6) :: (L + 1 + 1 + 1 + 1 + 1 + 1 + 1, o7) :: (kl, lstO vk kk) :: rest ∧ IntsAre vk ((keptN R ig i).map Int.ofNat) ∧ ∀ z, z ≠ Str.ofString "k" → z ≠ Str.ofString "glyph" → m z = m₀ z
theorem kept_few (R : List Rw) (ig : Int → Bool) (n : Nat) : ((keptN R ig n).map Int.ofNat).length ≤ n := by
  rw [List.length_map]
  exact Nat.le_trans (List.length_filter_le _ _) (by rw [List.length_range]; exact Nat.le_refl _)
theorem put_keep {o : Option Value} {m₀ : Str → Option Value} {y z : Str} {v : Value} (e : m₀ y = some v) (h : o = m₀ z) : (if z = y then some v else o) = m₀ z := by
  split
  · rename_i hz
    rw [hz, e]
  · exact h
theorem getD_bnd {ns : List Int} {len : Nat} {lim : Int} (hl : ns.length = len) (hb : ∀ x ∈ ns, 0 ≤ x ∧ x < lim) {g : Int} (g0 : 0 ≤ g) (g1 : g < len) : 0 ≤ ns.getD g.toNat 0 ∧ ns.getD g.toNat 0 < lim := by
  have h : g.toNat < ns.length := by omega
  rw [List.getD_eq_getElem?_getD, List.getElem?_eq_getElem h, Option.getD_some]
  exact hb _ (List.getElem_mem h)
theorem any_mem (l : List Int) (g : Int) : (l.any (· == g)) = decide (g ∈ l) := by
  rw [Bool.eq_iff_iff]; simp
/-- the two readings of the flag -/
theorem ign_law {cs hs ms : List Int} {fl q g : Int} {i : Bool} (lc : cs.length = 8) (hc : ∀ x ∈ cs, 0 ≤ x ∧ x < 5) (lh : hs.length = 8) (hh : ∀ x ∈ hs, 0 ≤ x ∧ x < 3) (f0 : 0 ≤ fl) (f1 : fl < 768) (g0 : 0 ≤ g) (g1 : g < 8) (hi : i = (decide (q = 0) && decide (g ∈ ms))) :
    lawIgn (cs.getD g.toNat 0) (hs.getD g.toNat 0) i fl = ignM (tabC cs 8) (tabC hs 8) ms fl q g := by
  obtain ⟨a, b⟩ := getD_bnd lc hc g0 g1
  obtain ⟨c, d⟩ := getD_bnd lh hh g0 g1
  rw [ign_eq i a b f0 f1]
  have e1 := tab_look (cs := cs) (fun x hx => (hc x hx).1) (n := 8) g0 g1
  have e2 := tab_look (cs := hs) (fun x hx => (hh x hx).1) (n := 8) g0 g1
  unfold ignM projIgn
  rw [e1, e2, hi]
theorem kp_no {R : List Rw} {ig : Int → Bool} {i : Nat} {b : Bool} (e : b = ig (R.getD i rw0).g) (h : b = true) : keptN R ig (i + 1) = keptN R ig i := by
  rw [keptN_succ, if_neg (by unfold kp; rw [← e, h]; exact Bool.false_ne_true), List.append_nil]
theorem kp_yes {R : List Rw} {ig : Int → Bool} {i : Nat} {b : Bool} (e : b = ig (R.getD i rw0).g) (h : b = false) : keptN R ig (i + 1) = keptN R ig i ++ [i] := by
  rw [keptN_succ, if_pos (by unfold kp; rw [← e, h]; rfl)]
theorem fold_one {h₀ h : Heap} {L : Addr} {a c1 c2 c3 c4 c5 c6 c7 : Addr × Obj} {r : Led} (N : News h₀ L h (a :: c1 :: c2 :: c3 :: c4 :: c5 :: c6 :: c7 :: r)) : News h₀ L h (c1 :: c2 :: c3 :: c4 :: c5 :: c6 :: c7 :: a :: r) :=
  cb_drop N (swap_app [c1, c2, c3, c4, c5, c6, c7] [a] r)
theorem in_lstI {prog : Program} {w : World} {A : Around} {E : Value → Shared → Prop} {s : Shared} {h₀ : Heap} {L : Addr} {news : Led} {l : Addr} {vs : List Value} {ns : List Int} {n : Nat} {k : Int} {t : Tok} {Q : Value → Shared → Prop} (N : News h₀ L s.heap news) (hm : (l, lstO vs n) ∈ news) (hi : IntsAre vs ns)
    (h : Q (.bool (ns.any (· == k))) s) : wpAny (model prog w) A (compareOp .In (.int k t) (.ref l)) Q E s := in_list_ints (News.isList N hm) hi h
theorem row34_1 : True := by
  k_with "W:compareOp In int ref" => ((k_here; k_dflt (refine' in_lstI ?k1 ?k2 ?k3 ?_; (case k1 => k_asm); (case k2 => k_mem); (case k3 => k_asm); k_whole)))
  exact trivial
theorem row34_2 : True := by
  k_with "W:subscriptTail" => ((k_here; (with_reducible show wpAny _ _ (subscriptTail _ _ (Value.ref _) (Value.int _ _)) _ _ _); k_dflt (refine' item_row ?k1 ?k2 (RowIn.mono ?k3 ?k4) ?k5 ?k6 ?_; (case k1 => k_asm); (case k2 => k_mem); (case k3 => assumption); (case k4 => exact (fun p hp => by simp only [List.mem_cons, hp, or_true])); (case k5 => first | k_asm | omega); (case k6 => first | k_asm | omega); k_whole); intro x1ᵣ x2ᵣ; have x3ᵣ := x2ᵣ.ex; obtain ⟨x4ᵣ, x5ᵣ, x6ᵣ, x7ᵣ, x8ᵣ, x9ᵣ, x10ᵣ, x11ᵣ, x12ᵣ, x13ᵣ, x14ᵣ⟩ := x3ᵣ))
  exact trivial
/-- the turn's end: k is not kept -/
theorem kept_no {h₀ : Heap} {L II kl : Addr} {oI o1 o2 o3 o4 o5 o6 o7 : Obj} {rest : Led} {m₀ m' : Str → Option Value} {R : List Rw} {ig : Int → Bool} {i kk tk : Nat} {s₁ : Shared} {h' : Heap} {vk : List Value} {b : Bool}
    (F : Fr h₀ L h' m') (N : News h₀ L h' ((II, oI) :: (L + 1, o1) :: (L + 1 + 1, o2) :: (L + 1 + 1 + 1, o3) :: (L + 1 + 1 + 1 + 1, o4) :: (L + 1 + 1 + 1 + 1 + 1, o5) :: (L + 1 + 1 + 1 + 1 + 1 + 1, o6) :: (L + 1 + 1 + 1 + 1 + 1 + 1 + 1, o7) :: (kl, lstO vk kk) :: rest))
    (hw : IntsAre vk ((keptN R ig i).map Int.ofNat)) (hne : ∀ p ∈ (L + 1, o1) :: (L + 1 + 1, o2) :: (L + 1 + 1 + 1, o3) :: (L + 1 + 1 + 1 + 1, o4) :: (L + 1 + 1 + 1 + 1 + 1, o5) :: (L + 1 + 1 + 1 + 1 + 1 + 1, o6) :: (L + 1 + 1 + 1 + 1 + 1 + 1 + 1, o7) :: (kl, lstO [] 0) :: rest, p.1 < II)
    (e : b = ig (R.getD i rw0).g) (hb : b = true) (hm : ∀ z, z ≠ Str.ofString "k" → z ≠ Str.ofString "glyph" → m' z = m₀ z) :
    FEnd h₀ L II oI (keptJ L o1 o2 o3 o4 o5 o6 o7 rest kl m₀ R ig (i + 1)) s₁ { s₁ with heap := h', toks := tk } := by
  refine FEnd.intro _ F N (fun _ h => h) ?_ ⟨vk, kk, rfl, by rw [kp_no e hb]; exact hw, hm⟩
  simp only [List.forall_mem_cons] at hne ⊢
  obtain ⟨n1, n2, n3, n4, n5, n6, n7, n8, n9⟩ := hne
  exact ⟨Nat.ne_of_lt n1, Nat.ne_of_lt n2, Nat.ne_of_lt n3, Nat.ne_of_lt n4, Nat.ne_of_lt n5, Nat.ne_of_lt n6, Nat.ne_of_lt n7, Nat.ne_of_lt n8, fun p hp => Nat.ne_of_lt (n9 p hp)⟩
/-- the turn's end: k is kept -/
theorem kept_yes {h₀ : Heap} {L II kl : Addr} {oI o1 o2 o3 o4 o5 o6 o7 : Obj} {rest : Led} {m₀ m' : Str → Option Value} {R : List Rw} {ig : Int → Bool} {i kk tk : Nat} {s₁ : Shared} {h' : Heap} {vk : List Value} {b : Bool}
    (F : Fr h₀ L h' m') (N : News h₀ L h' ((II, oI) :: (L + 1, o1) :: (L + 1 + 1, o2) :: (L + 1 + 1 + 1, o3) :: (L + 1 + 1 + 1 + 1, o4) :: (L + 1 + 1 + 1 + 1 + 1, o5) :: (L + 1 + 1 + 1 + 1 + 1 + 1, o6) :: (L + 1 + 1 + 1 + 1 + 1 + 1 + 1, o7) :: (kl, lstO vk kk) :: rest))
    (hw : IntsAre vk ((keptN R ig i).map Int.ofNat ++ [(i : Int)])) (hne : ∀ p ∈ (L + 1, o1) :: (L + 1 + 1, o2) :: (L + 1 + 1 + 1, o3) :: (L + 1 + 1 + 1 + 1, o4) :: (L + 1 + 1 + 1 + 1 + 1, o5) :: (L + 1 + 1 + 1 + 1 + 1 + 1, o6) :: (L + 1 + 1 + 1 + 1 + 1 + 1 + 1, o7) :: (kl, lstO [] 0) :: rest, p.1 < II)
    (e : b = ig (R.getD i rw0).g) (hb : b = false) (hm : ∀ z, z ≠ Str.ofString "k" → z ≠ Str.ofString "glyph" → m' z = m₀ z) :
    FEnd h₀ L II oI (keptJ L o1 o2 o3 o4 o5 o6 o7 rest kl m₀ R ig (i + 1)) s₁ { s₁ with heap := h', toks := tk } := by
  refine FEnd.intro _ F N (fun _ h => h) ?_ ⟨vk, kk, rfl, by rw [kp_yes e hb, List.map_append]; exact hw, hm⟩
  simp only [List.forall_mem_cons] at hne ⊢
  obtain ⟨n1, n2, n3, n4, n5, n6, n7, n8, n9⟩ := hne
  exact ⟨Nat.ne_of_lt n1, Nat.ne_of_lt n2, Nat.ne_of_lt n3, Nat.ne_of_lt n4, Nat.ne_of_lt n5, Nat.ne_of_lt n6, Nat.ne_of_lt n7, Nat.ne_of_lt n8, fun p hp => Nat.ne_of_lt (n9 p hp)⟩
theorem getD_mem {R : List Rw} {i : Nat} (h : i < R.length) : R.getD i rw0 ∈ R := by
  rw [List.getD_eq_getElem?_getD, List.getElem?_eq_getElem h, Option.getD_some]
  exact List.getElem_mem h
theorem getD_bnd8 {ns : List Int} {lim : Int} (hl : ns.length = 8) (hb : ∀ x ∈ ns, 0 ≤ x ∧ x < lim) {g : Int} (g0 : 0 ≤ g) (g1 : g < 8) : 0 ≤ ns.getD g.toNat 0 ∧ ns.getD g.toNat 0 < lim := getD_bnd hl hb g0 g1
theorem row_bnd {R : List Rw} {i : Nat} (hb : ∀ x ∈ R, 0 ≤ x.g ∧ x.g < 8) (hi : i < R.length) : 0 ≤ (R.getD ((i : Nat) : Int).toNat rw0).g ∧ (R.getD ((i : Nat) : Int).toNat rw0).g < 8 := hb _ (getD_mem hi)
theorem hi_yes {ms : List Int} {q g : Int} (h : q = 0) : (ms.any fun x => x == g) = (decide (q = 0) && decide (g ∈ ms)) := by rw [any_mem, decide_eq_true h, Bool.true_and]
theorem hi_no {ms : List Int} {q g : Int} (h : q ≠ 0) : (q == 0) = (decide (q = 0) && decide (g ∈ ms)) := by simp [h]

theorem calm35 : True := by
  w_top off
  exact trivial
abbrev cellsL (L : Addr) (o1 o2 o3 o4 o5 o6 o7 : Obj) (rest : Led) : Led :=
  (L + 1, o1) :: (L + 1 + 1, o2) :: (L + 1 + 1 + 1, o3) :: (L + 1 + 1 + 1 + 1, o4) :: (L + 1 + 1 + 1 + 1 + 1, o5) :: (L + 1 + 1 + 1 + 1 + 1 + 1, o6) :: (L + 1 + 1 + 1 + 1 + 1 + 1 + 1, o7) :: rest
/-- behind whole -/
inductive P11 (w : World) (L : Addr) (m : Str → Option Value) (news : Led) : Prop
  | mk (o1 o2 o3 o4 o5 o6 o7 : Obj) (rest : Led) (b : Int) (cs hs : List Int) (gd : Addr) (fl q : Int) (rw : Addr) (vr : List Value) (kr : Nat) (R : List Rw) (tm : Tok) (tt : Addr) (vt : List Value) (kt : Nat) (Ts : List Tst) (mk : Int) (kl : Addr) (vk : List Value) (kk : Nat) (wh : Addr) (_ : news = cellsL L o1 o2 o3 o4 o5 o6 o7 rest) (_ : (∀ p ∈ rest, OffC L p.1)) (_ : o6.data = .cell (some (.ref rw))) (_ : o7.data = .cell (some (.ref kl))) (_ : GdefM w rest gd (tabC cs 8) (tabC hs 8) (bitsL b)) (_ : (rw, lstO vr kr) ∈ rest) (_ : RowIn rest vr R) (_ : R.length = 6) (_ : (tt, tupO vt kt) ∈ rest) (_ : TestsIn w rest vt Ts) (_ : 0 < Ts.length) (_ : (kl, lstO vk kk) ∈ rest) (_ : IntsAre vk ((keptN R (ignM (tabC cs 8) (tabC hs 8) (bitsL b) fl q) R.length).map Int.ofNat)) (_ : SceneAt w rest wh R mk fl q (tabC cs 8) (tabC hs 8) (bitsL b)) (_ : m (Str.ofString "gdef") = some (.ref gd)) (_ : m (Str.ofString "mask") = some (.int mk tm)) (_ : m (Str.ofString "tests") = some (.ref tt)) (_ : m (Str.ofString "whole") = some (.ref wh)) : P11 w L m news
/-- behind short -/
inductive P12 (w : World) (L : Addr) (m : Str → Option Value) (news : Led) : Prop
  | mk (o1 o2 o3 o4 o5 o6 o7 : Obj) (rest : Led) (b : Int) (cs hs : List Int) (fl q : Int) (R : List Rw) (tt : Addr) (vt : List Value) (kt : Nat) (Ts : List Tst) (mk : Int) (kl : Addr) (vk : List Value) (kk : Nat) (wh sh : Addr) (_ : news = cellsL L o1 o2 o3 o4 o5 o6 o7 rest) (_ : (∀ p ∈ rest, OffC L p.1)) (_ : o7.data = .cell (some (.ref kl))) (_ : R.length = 6) (_ : (tt, tupO vt kt) ∈ rest) (_ : TestsIn w rest vt Ts) (_ : 0 < Ts.length) (_ : (kl, lstO vk kk) ∈ rest) (_ : IntsAre vk ((keptN R (ignM (tabC cs 8) (tabC hs 8) (bitsL b) fl q) R.length).map Int.ofNat)) (_ : SceneAt w rest wh R mk fl q (tabC cs 8) (tabC hs 8) (bitsL b)) (_ : SceneAt w rest sh (shortR R (ignM (tabC cs 8) (tabC hs 8) (bitsL b) fl q)) mk 0 0 (tabC cs 8) (tabC hs 8) (bitsL b)) (_ : m (Str.ofString "tests") = some (.ref tt)) (_ : m (Str.ofString "whole") = some (.ref wh)) (_ : m (Str.ofString "short") = some (.ref sh)) : P12 w L m news
theorem fold_cells {h₀ : Heap} {L : Addr} {h : Heap} {o1 o2 o3 o4 o5 o6 o7 : Obj} {rest : Led} (pre : Led)
    (N : News h₀ L h (pre ++ cellsL L o1 o2 o3 o4 o5 o6 o7 rest)) : News h₀ L h (cellsL L o1 o2 o3 o4 o5 o6 o7 (pre ++ rest)) := by
  exact cb_drop N (swap_app [(L + 1, o1), (L + 1 + 1, o2), (L + 1 + 1 + 1, o3), (L + 1 + 1 + 1 + 1, o4), (L + 1 + 1 + 1 + 1 + 1, o5), (L + 1 + 1 + 1 + 1 + 1 + 1, o6), (L + 1 + 1 + 1 + 1 + 1 + 1 + 1, o7)] pre rest)
theorem off_app {L : Addr} {rest : Led} (h : ∀ p ∈ rest, OffC L p.1) (pre : Led) (h2 : ∀ p ∈ pre, OffC L p.1) : ∀ p ∈ pre ++ rest, OffC L p.1 := fun p hp => (List.mem_append.mp hp).elim (h2 p) (h p)
theorem sub_app {rest : Led} (pre : Led) : ∀ p ∈ rest, p ∈ pre ++ rest := fun _ hp => List.mem_append.mpr (.inr hp)
theorem item_rowS {prog : Program} {w : World} {A : Around} {E : Value → Shared → Prop} {s : Shared} {h₀ : Heap} {L : Addr} {news rest : Led} {value slice : PySem.Expr} {l : Addr} {vs : List Value} {R : List Rw} {n : Nat} {k : Int} {u : Tok} {Q : Value → Shared → Prop} (N : News h₀ L s.heap news) (hm : (l, lstO vs n) ∈ news) (hR : RowIn rest vs R)
    (h0 : 0 ≤ k) (h1 : k < R.length) (h : ∀ a, InfoAt rest a (R.getD k.toNat rw0) → Q (.ref a) s)
    (hs : subscripted slice false (.ref l) (.int k u) = operate [.ref l, .int k u] (getItem (.ref l) (.int k u)) := by with_unfolding_all rfl) (hg : ∀ r, letTemporaryGo value (.ref l) r = pure () := by intro _; with_unfolding_all rfl) :
    wpAny (model prog w) A (subscriptTail value slice (.ref l) (.int k u)) Q E s := by
  have hf := hR.few
  have e : R[k.toNat]? = some (R.getD k.toNat rw0) := by
    have : k.toNat < R.length := by omega
    simp [List.getD, this]
  obtain ⟨a, ha, hI⟩ := hR.it _ _ e
  exact kim_list N hm rfl rfl h0 (by omega) ha (h a hI) hs hg
/-- a comprehension that takes a row's Infos at the places of a list -/
theorem comp_short {prog : Program} {w : World} {A : Around} {h₀ : Heap} {L : Addr} {m : Str → Option Value} {env : Env} {elt : Expr} {x : Str} {scope : Scope} {cl : List (Str × Addr)} {s : Shared} {S : Led → Prop} {Fin : List Value → Led → Prop} {news rest : Led} {vk : List Value} {ks : List Nat} {R : List Rw}
    (hw : IntsAre vk (ks.map Int.ofNat)) (hk : ∀ j ∈ ks, j < R.length) (hks : ks.length ≤ 8)
    (turn : ∀ (j : Nat) ys tj I oI C oC D (m₂ : Str → Option Value) h tk (E' : Value → Shared → Prop), LCg.NsObj oC m₂ → m₂ x = some (.int (j : Int) tj) → Fr h₀ L h m → News h₀ L h ((I, oI) :: (C, oC) :: (D, LCg.lst ys) :: news) → LCg.Off3 I C D news → ((@Ne Nat I C) ∧ (@Ne Nat I D) ∧ (@Ne Nat C D)) → 0 ≤ (j : Int) → (j : Int) < R.length →
      wpAny (model prog w) A (eval elt (compEnvC scope cl C env)) (LCg.CompEnd h₀ L m { s with heap := h, toks := tk } I oI C oC D (LCg.lst ys) S (fun y nw => nw = news ∧ ∃ a, y = .ref a ∧ InfoAt rest a (R.getD j rw0))) E' { s with heap := h, toks := tk })
    (fin : ∀ ys, RowIn rest ys (ks.map fun i => R.getD i rw0) → Fin ys news) :
    LCg.CompRest prog w A h₀ L m env elt x scope cl s S (fun i v => vk.toArray[i]? = some v) Fin vk.toArray.size 0 [] news := by
  have hl : vk.length = ks.length := by rw [hw.length, List.length_map]
  refine comp_indC (fun i ys => RowIn rest ys ((ks.take i).map fun i => R.getD i rw0)) ⟨rfl, fun i r e => by simp at e, by simp⟩ (fun ys h => fin ys ?_) ?_
  · rw [List.size_toArray, hl, List.take_length] at h
    exact h
  · intro i ys v I oI C oC D m₂ h tk E' hi hP hJ hC hx F N o3 ne
    rw [List.size_toArray, hl] at hi
    have hv : vk[i]? = some v := by simpa using hP
    have hj : (ks.map Int.ofNat)[i]? = some (Int.ofNat ks[i]) := by rw [List.getElem?_map, List.getElem?_eq_getElem hi]; rfl
    obtain ⟨tj, e⟩ := hw.get i _ hj
    rw [hv] at e
    cases e
    have hj2 : ks[i] < R.length := hk _ (List.getElem_mem hi)
    refine wpAny_mono (turn ks[i] ys tj I oI C oC D m₂ h tk E' hC hx F N o3 ne (by omega) (by omega)) (fun y s₂ q => ?_) fun _ _ e => e
    obtain ⟨h', tk', nw, rfl, F', N', off, hS, rfl, a, rfl, hI⟩ := q
    refine ⟨h', tk', _, rfl, F', N', off, hS, rfl, ?_⟩
    rw [List.take_add_one, List.getElem?_eq_getElem hi, List.map_append]
    exact hJ.snoc hI (by rw [List.length_map, List.length_take]; omega)
theorem kept_lt {R : List Rw} {ig : Int → Bool} {n : Nat} : ∀ j ∈ keptN R ig n, j < n := fun j hj => List.mem_range.mp (List.mem_filter.mp hj).1
theorem kept_len8 {R : List Rw} {ig : Int → Bool} {n : Nat} (h : n = 6) : (keptN R ig n).length ≤ 8 := by
  have := kept_few R ig n
  rw [List.length_map] at this
  omega
theorem fold_rest {h₀ : Heap} {L : Addr} {h : Heap} {o1 o2 o3 o4 o5 o6 o7 : Obj} {rest : Led} (pre : Led) (N : News h₀ L h (pre ++ cellsL L o1 o2 o3 o4 o5 o6 o7 rest)) (ho : ∀ p ∈ rest, OffC L p.1) (h2 : ∀ p ∈ pre, OffC L p.1) :
    News h₀ L h (cellsL L o1 o2 o3 o4 o5 o6 o7 (pre ++ rest)) ∧ (∀ p ∈ pre ++ rest, OffC L p.1) ∧ ∀ p ∈ rest, p ∈ pre ++ rest := ⟨fold_cells pre N, off_app ho pre h2, sub_app pre⟩
theorem short_end {h₀ : Heap} {L I C D kl a : Addr} {m : Str → Option Value} {s₁ : Shared} {oI oC oD o1 o2 o3 o4 o5 o6 o7 : Obj} {rest : Led} {h' : Heap} {tk kk j : Nat} {vk : List Value} {R : List Rw}
    (F : Fr h₀ L h' m) (N : News h₀ L h' ((I, oI) :: (C, oC) :: (D, oD) :: cellsL L o1 o2 o3 o4 o5 o6 o7 rest)) (off : LCg.Off3 I C D (cellsL L o1 o2 o3 o4 o5 o6 o7 rest)) (hm : (kl, lstO vk kk) ∈ rest) (hI : InfoAt rest a (R.getD ((j : Nat) : Int).toNat rw0)) :
    LCg.CompEnd h₀ L m s₁ I oI C oC D oD (LCg.SrcAt h₀ kl vk.toArray) (fun y nw => nw = cellsL L o1 o2 o3 o4 o5 o6 o7 rest ∧ ∃ a, y = .ref a ∧ InfoAt rest a (R.getD j rw0)) (.ref a) { s₁ with heap := h', toks := tk } :=
  LCg.CompEnd.intro F N _ (fun _ h => h) off (.inr ⟨lstO vk kk, by simp only [List.mem_cons, hm, or_true], rfl, _, rfl⟩) ⟨rfl, a, rfl, hI⟩

theorem calm36 : True := by
  w_top off
  exact trivial
/-- behind places -/
inductive P13 (w : World) (L : Addr) (m : Str → Option Value) (news : Led) : Prop
  | mk (o1 o2 o3 o4 o5 o6 o7 : Obj) (rest : Led) (b : Int) (cs hs : List Int) (fl q : Int) (R : List Rw) (tt : Addr) (vt : List Value) (kt : Nat) (Ts : List Tst) (mk : Int) (kl : Addr) (vk : List Value) (kk : Nat) (wh sh pl : Addr) (_ : news = cellsL L o1 o2 o3 o4 o5 o6 o7 rest) (_ : (∀ p ∈ rest, OffC L p.1)) (_ : o7.data = .cell (some (.ref kl))) (_ : R.length = 6) (_ : (tt, tupO vt kt) ∈ rest) (_ : TestsIn w rest vt Ts) (_ : 0 < Ts.length) (_ : (kl, lstO vk kk) ∈ rest) (_ : IntsAre vk ((keptN R (ignM (tabC cs 8) (tabC hs 8) (bitsL b) fl q) R.length).map Int.ofNat)) (_ : SceneAt w rest wh R mk fl q (tabC cs 8) (tabC hs 8) (bitsL b)) (_ : SceneAt w rest sh (shortR R (ignM (tabC cs 8) (tabC hs 8) (bitsL b) fl q)) mk 0 0 (tabC cs 8) (tabC hs 8) (bitsL b)) (_ : DicAt w rest pl (placesL (keptN R (ignM (tabC cs 8) (tabC hs 8) (bitsL b) fl q) R.length) (keptN R (ignM (tabC cs 8) (tabC hs 8) (bitsL b) fl q) R.length).length)) (_ : m (Str.ofString "tests") = some (.ref tt)) (_ : m (Str.ofString "whole") = some (.ref wh)) (_ : m (Str.ofString "short") = some (.ref sh)) (_ : m (Str.ofString "places") = some (.ref pl)) : P13 w L m news
/-- behind same -/
inductive P14 (w : World) (L : Addr) (m : Str → Option Value) (news : Led) : Prop
  | mk (o1 o2 o3 o4 o5 o6 o7 : Obj) (rest : Led) (b : Int) (cs hs : List Int) (fl q : Int) (R : List Rw) (tt : Addr) (vt : List Value) (kt : Nat) (Ts : List Tst) (mk : Int) (kl : Addr) (vk : List Value) (kk : Nat) (wh sh pl sm : Addr) (_ : news = cellsL L o1 o2 o3 o4 o5 o6 o7 rest) (_ : (∀ p ∈ rest, OffC L p.1)) (_ : o7.data = .cell (some (.ref kl))) (_ : R.length = 6) (_ : (tt, tupO vt kt) ∈ rest) (_ : TestsIn w rest vt Ts) (_ : 0 < Ts.length) (_ : (kl, lstO vk kk) ∈ rest) (_ : IntsAre vk ((keptN R (ignM (tabC cs 8) (tabC hs 8) (bitsL b) fl q) R.length).map Int.ofNat)) (_ : SceneAt w rest wh R mk fl q (tabC cs 8) (tabC hs 8) (bitsL b)) (_ : SceneAt w rest sh (shortR R (ignM (tabC cs 8) (tabC hs 8) (bitsL b) fl q)) mk 0 0 (tabC cs 8) (tabC hs 8) (bitsL b)) (_ : DicAt w rest pl (placesL (keptN R (ignM (tabC cs 8) (tabC hs 8) (bitsL b) fl q) R.length) (keptN R (ignM (tabC cs 8) (tabC hs 8) (bitsL b) fl q) R.length).length)) (_ : DicAt w rest sm (sameL (keptN R (ignM (tabC cs 8) (tabC hs 8) (bitsL b) fl q) R.length).length)) (_ : m (Str.ofString "tests") = some (.ref tt)) (_ : m (Str.ofString "whole") = some (.ref wh)) (_ : m (Str.ofString "short") = some (.ref sh)) (_ : m (Str.ofString "places") = some (.ref pl)) (_ : m (Str.ofString "same") = some (.ref sm)) : P14 w L m news
/-- a comprehension of pairs of ints over a range -/
theorem comp_pairs {prog : Program} {w : World} {A : Around} {h₀ : Heap} {L : Addr} {m : Str → Option Value} {env : Env} {elt : Expr} {x : Str} {scope : Scope} {cl : List (Str × Addr)} {s : Shared} {S : Led → Prop} {Fin : List Value → Led → Prop} {n : Nat} {rest : Led} {g : Led → Led} (f : Nat → Int × Int) (ho : ∀ p ∈ rest, OffC L p.1)
    (turn : ∀ (i : Nat) ys ti r I oI C oC D (m₂ : Str → Option Value) h tk (E' : Value → Shared → Prop), i < n → LCg.NsObj oC m₂ → m₂ x = some (.int (i : Int) ti) → Fr h₀ L h m → News h₀ L h ((I, oI) :: (C, oC) :: (D, LCg.lst ys) :: g r) → LCg.Off3 I C D (g r) → ((@Ne Nat I C) ∧ (@Ne Nat I D) ∧ (@Ne Nat C D)) → (∀ p ∈ rest, p ∈ r) → (∀ p ∈ r, OffC L p.1) → 0 ≤ (i : Int) → (i : Int) < (n : Int) →
      wpAny (model prog w) A (eval elt (compEnvC scope cl C env)) (LCg.CompEnd h₀ L m { s with heap := h, toks := tk } I oI C oC D (LCg.lst ys) S (fun y nw => ∃ t j u1 u2, y = .ref t ∧ nw = g ((t, tupO [.int (f i).1 u1, .int (f i).2 u2] j) :: r) ∧ OffC L t)) E' { s with heap := h, toks := tk })
    (fin : ∀ ys r, (∀ p ∈ rest, p ∈ r) → (∀ p ∈ r, OffC L p.1) → PairsL r ys ((List.range n).map f) → Fin ys (g r)) :
    LCg.CompRest prog w A h₀ L m env elt x scope cl s S (fun i v => ∃ t, v = .int (0 + (i : Int)) t) Fin n 0 [] (g rest) := by
  refine comp_ind (n := n) (fun i ys nw => ∃ r, nw = g r ∧ (∀ p ∈ rest, p ∈ r) ∧ (∀ p ∈ r, OffC L p.1) ∧ PairsL r ys ((List.range i).map f)) ?_ ?_ n 0 [] _ (by omega) ⟨rest, rfl, fun _ h => h, ho, .nil⟩
  · rintro ys nw ⟨r, rfl, h1, h2, h3⟩
    exact fin ys r h1 h2 h3
  · rintro i ys nw v I oI C oC D m₂ h tk E' hi ⟨ti, rfl⟩ ⟨r, rfl, h1, h2, h3⟩ hC hx F N o3 ne
    rw [Int.zero_add] at hx
    refine wpAny_mono (turn i ys ti r I oI C oC D m₂ h tk E' hi hC hx F N o3 ne h1 h2 (by omega) (by omega)) (fun y s₂ q => ?_) fun _ _ e => e
    obtain ⟨h', tk', nw, rfl, F', N', off, hS, t, j, u1, u2, rfl, rfl, hOt⟩ := q
    refine ⟨h', tk', _, rfl, F', N', off, hS, _, rfl, fun p hp => List.mem_cons_of_mem _ (h1 p hp), List.forall_mem_cons.mpr ⟨hOt, h2⟩, ?_⟩
    rw [List.range_succ, List.map_append]
    exact (h3.mono fun p hp => List.mem_cons_of_mem _ hp).snoc List.mem_cons_self
theorem pairs_end {h₀ : Heap} {L I C D t : Addr} {m : Str → Option Value} {s₁ : Shared} {oI oC : Obj} {ys : List Value} {a v : Int} {u1 u2 : Tok} {o1 o2 o3 o4 o5 o6 o7 : Obj} {j : Nat} {r : Led} {h' : Heap} {tk : Nat}
    (F : Fr h₀ L h' m) (N : News h₀ L h' ((t, tupO [.int a u1, .int v u2] j) :: (I, oI) :: (C, oC) :: (D, LCg.lst ys) :: cellsL L o1 o2 o3 o4 o5 o6 o7 r)) (off : LCg.Off3 I C D (cellsL L o1 o2 o3 o4 o5 o6 o7 r))
    (lt : AllLt t ((I, oI) :: (C, oC) :: (D, LCg.lst ys) :: cellsL L o1 o2 o3 o4 o5 o6 o7 r)) :
    LCg.CompEnd h₀ L m s₁ I oI C oC D (LCg.lst ys) (fun _ => True) (fun y nw => ∃ t j u1 u2, y = .ref t ∧ nw = cellsL L o1 o2 o3 o4 o5 o6 o7 ((t, tupO [.int a u1, .int v u2] j) :: r) ∧ OffC L t) (.ref t) { s₁ with heap := h', toks := tk } := by
  obtain ⟨l1, l2, l3, l4, l5, l6, l7, l8, l9, l10, l11⟩ := lt
  obtain ⟨f1, f2, f3, f4, f5, f6, f7, f9⟩ := off
  refine LCg.CompEnd.intro F N (cellsL L o1 o2 o3 o4 o5 o6 o7 ((t, tupO [.int a u1, .int v u2] j) :: r)) ?_ ⟨f1, f2, f3, f4, f5, f6, f7, ⟨Nat.ne_of_gt l1, Nat.ne_of_gt l2, Nat.ne_of_gt l3⟩, f9⟩ trivial ⟨t, j, u1, u2, rfl, rfl, OffC.of_lt l10⟩
  intro p hp
  simp only [List.mem_cons] at hp ⊢
  rcases hp with h | h | h | h | h | h | h | h | h | h | h | h <;> simp [h]
noncomputable def placeF (ks : List Nat) (i : Nat) : Int × Int := ((ks.map Int.ofNat).getD ((i : Nat) : Int).toNat 0, (i : Int))
noncomputable def sameF (i : Nat) : Int × Int := ((i : Int), (i : Int))
theorem places_eq (ks : List Nat) : (List.range ((((ks.map Int.ofNat).length : Nat) : Int)).toNat).map (placeF ks) = placesL ks ks.length := by
  rw [Int.toNat_natCast, List.length_map]
  unfold placesL
  refine List.map_congr_left fun i hi => ?_
  unfold placeF
  have h := List.mem_range.mp hi
  rw [Int.toNat_natCast, List.getD_eq_getElem?_getD, List.getD_eq_getElem?_getD, List.getElem?_map, List.getElem?_eq_getElem h]
  rfl
theorem same_eq (ks : List Nat) : (List.range ((((ks.map Int.ofNat).length : Nat) : Int)).toNat).map sameF = sameL ks.length := by
  rw [Int.toNat_natCast, List.length_map]
  rfl
theorem row36_1 : True := by
  k_with "W:call type:dict" => ((k_here; k_dflt (refine' dict_of_pairs ?k1 ?k2 ?k3 ?k4 ?k5 (PairsL.mono ?k6 ?k6s) ?k7 ?k8 ?_; (case k1 => k_asm); (case k2 => k_asm); (case k3 => exact Top.nolimit (by assumption)); (case k4 => rfl); (case k5 => k_mem); (case k6 => assumption); (case k6s => exact (fun p hp => by simp only [List.mem_cons, hp, or_true])); (case k7 => assumption); (case k8 => assumption); k_whole); intro x1ᵣ x2ᵣ x3ᵣ x4ᵣ x5ᵣ x6ᵣ x7ᵣ x8ᵣ; (try k_lt x7ᵣ); (try k_sweep); (try k_fold)))
  exact trivial

theorem calm37 : True := by
  w_top off
  exact trivial
noncomputable def optD : Option (List Int) → PyData
  | none => .none
  | some ns => .list (ns.map PyData.int)
noncomputable def ansD (A : Ans) : PyData := .list [.int A.a1, .int A.a2, optD A.a3, .int A.a4, .int A.a5]
theorem AnsAt.mono {n n' : Led} {r : Value} {A : Ans} (H : AnsAt n r A) (s : ∀ p ∈ n, p ∈ n') : AnsAt n' r A := by
  obtain ⟨l, k, t1, t2, v3, t4, t5, rfl, hm, hV⟩ := H
  refine ⟨l, k, t1, t2, v3, t4, t5, rfl, s _ hm, ?_⟩
  cases h : A.a3 with
  | none => rw [h] at hV; exact hV
  | some ns => rw [h] at hV; obtain ⟨l', ws, k', e, hm', hi⟩ := hV; exact ⟨l', ws, k', e, s _ hm', hi⟩
theorem ans_reads {h₀ h : Heap} {L : Addr} {n : Led} {r : Value} {A : Ans} (N : News h₀ L h n) (H : AnsAt n r A) : ∃ as, Reads h r (ansD A) as := by
  obtain ⟨l, k, t1, t2, v3, t4, t5, rfl, hm, hV⟩ := H
  have h3 : ∃ as, Reads h v3 (optD A.a3) as := by
    cases e : A.a3 with
    | none => rw [e] at hV; rw [show v3 = .none from hV]; exact ⟨_, .none⟩
    | some ns => rw [e] at hV; obtain ⟨l', ws, k', rfl, hm', hi⟩ := hV; exact ⟨_, reads_newData (News.isList N hm') (ke_carried hi)⟩
  obtain ⟨as, h3⟩ := h3
  exact ⟨_, reads_list_at (N _ hm).1 rfl rfl (.cons (.int _ _) (.cons (.int _ _) (.cons h3 (.cons (.int _ _) (.cons (.int _ _) .nil)))))⟩
theorem ans_shaped (A : Ans) : SeqAt.shaped (ansD A) = true := by
  unfold ansD
  cases A.a3 with
  | none => simp [optD, SeqAt.shaped, PyData.canLay0, PyData.canLayAll0, PyData.depth, PyData.depthAll]
  | some ns => simp [optD, SeqAt.shaped, PyData.canLay0, PyData.canLayAll0, PyData.depth, PyData.depthAll, ke_canLayAll0, ke_depthAll]
theorem ne_ans {prog : Program} {w : World} {A : Around} {E : Value → Shared → Prop} {s : Shared} {h₀ : Heap} {L : Addr} {news : Led} {x y : Value} {X Y : Ans} {Q : Value → Shared → Prop} (N : News h₀ L s.heap news) (e : X = Y) (hx : AnsAt news x X) (hy : AnsAt news y Y) (hu : A.units + 64 < cLine)
    (h : Q (.bool false) s) : wpAny (model prog w) A (compareOp .NotEq x y) Q E s := by
  subst e
  obtain ⟨as, ra⟩ := ans_reads N hx
  obtain ⟨bs, rb⟩ := ans_reads N hy
  refine ne_dataH ra rb (ans_shaped X) (ans_shaped X) hu ?_
  rw [SeqAt.eqv_refl _ (SeqAt.canLay_of_shaped (ans_shaped X))]
  exact h
theorem places_item {w : World} {A : Around} {E : Value → Shared → Prop} {s : Shared} {h₀ : Heap} {L : Addr} {news : Led} {value slice : PySem.Expr} {d : Addr} {R : List Rw} {ig : Int → Bool} {j : Nat} {tk : Tok} {Q : Value → Shared → Prop} (N : News h₀ L s.heap news)
    (D : DicAt w news d (placesL (keptN R ig R.length) (keptN R ig R.length).length)) (hi : j < R.length) (hk : kp R ig j = true) (h : ∀ t, Q (.int (rk R ig j : Int) t) { s with toks := s.toks + 1 })
    (hs : subscripted slice false (.ref d) (.int (j : Int) tk) = operate [.ref d, .int (j : Int) tk] (getItem (.ref d) (.int (j : Int) tk)) := by with_unfolding_all rfl) (hg : ∀ r, letTemporaryGo value (.ref d) r = pure () := by intro _; with_unfolding_all rfl) :
    wpAny (model Pg w) A (subscriptTail value slice (.ref d) (.int (j : Int) tk)) Q E s := by
  obtain ⟨o, kvs, h1, h2, h3, h4⟩ := D.ex
  refine kdf_item (TabAt.ofNews N h1 h4 h2 h3) ?_ (fun t => ?_) hs hg
  · unfold kdfHas
    rw [List.any_eq_true]
    refine ⟨((j : Int), (rk R ig j : Int)), ?_, decide_eq_true rfl⟩
    unfold placesL
    refine List.mem_map.mpr ⟨rk R ig j, List.mem_range.mpr (rk_lt hk hi), ?_⟩
    have := kept_at hk _ hi
    rw [List.getD_eq_getElem?_getD, this]
    rfl
  · rw [places_look hi hk]
    exact h t
/-- a for over the kept, whose turns leave the ledger as it stands -/
theorem for_kept {prog : Program} {w : World} {A : Around} {E : Value → Shared → Prop} {s : Shared} {env : Env} {h₀ : Heap} {x : Str} {body : List Stmt} {Q : Flow → Shared → Prop} {l : Addr} {vk : List Value} {k : Nat} {m₀ : Str → Option Value} {news : Led} {ks : List Nat}
    (hh : A.handled = none) (hm : (l, lstO vk k) ∈ news) (hw : IntsAre vk (ks.map Int.ofNat)) (F : Fr h₀ env.locals s.heap m₀) (N : News h₀ env.locals s.heap news)
    (turn : ∀ (j : Nat) tj h tk II oI, j ∈ ks → (∀ p ∈ news, p.1 < II) → Fr h₀ env.locals h (fun z => if z = x then some (.int (j : Int) tj) else m₀ z) → News h₀ env.locals h ((II, oI) :: news) →
      wpAny (model prog w) A (execs body env) (FPost h₀ env.locals II oI (fun m' nx => nx = news ∧ ∀ z, z ≠ x → m' z = m₀ z) { s with heap := h, toks := tk } Q) E { s with heap := h, toks := tk })
    (done : ∀ (u : Str → Option Value) h tk, Fr h₀ env.locals h (fun z => if z = x then u z else m₀ z) → News h₀ env.locals h news → Q .next { s with heap := h, toks := tk }) :
    wpAny (model prog w) A (pyIter (.ref l)) (fun it s₂ => LoopAtV prog w A h₀ env x body Q E it s₂) E s := by
  refine for_lstJ (fun i m nx => nx = news ∧ ∀ z, z ≠ x → m z = m₀ z) hh hm F N ⟨rfl, fun _ _ => rfl⟩ (fun i m nx h => by rw [h.1]; exact hm) ?_ ?_
  · rintro i v m₁ nx h tk II oI hv ⟨rfl, hm₁⟩ hlt hne F₁ N₁
    have hi : i < ks.length := by
      have := (List.getElem?_eq_some_iff.mp hv).1
      rw [hw.length, List.length_map] at this
      exact this
    obtain ⟨tj, e⟩ := hw.get i (Int.ofNat ks[i]) (by rw [List.getElem?_map, List.getElem?_eq_getElem hi]; rfl)
    rw [hv] at e
    cases e
    have e : (fun z => if z = x then some (Value.int (Int.ofNat ks[i]) tj) else m₁ z) = fun z => if z = x then some (Value.int (Int.ofNat ks[i]) tj) else m₀ z := by
      funext z
      by_cases h1 : z = x
      · simp [h1]
      · simp only [if_neg h1]; exact hm₁ z h1
    rw [e] at F₁
    exact turn ks[i] tj h tk II oI (List.getElem_mem hi) hlt F₁ N₁
  · rintro m₁ nx h tk ⟨rfl, hm₁⟩ F₁ N₁
    have e : (fun z => if z = x then m₁ z else m₀ z) = m₁ := by
      funext z
      by_cases h1 : z = x
      · simp [h1]
      · simp only [if_neg h1]; exact (hm₁ z h1).symm
    exact done m₁ h tk (by rw [e]; exact F₁) N₁
/-- ahead of the return -/
inductive P15 (w : World) (L : Addr) (m : Str → Option Value) (news : Led) : Prop
  | mk (o1 o2 o3 o4 o5 o6 o7 : Obj) (rest : Led) (cs hs : List (Int × Int)) (ms : List Int) (fl q : Int) (R : List Rw) (mk : Int) (wh : Addr) (_ : news = cellsL L o1 o2 o3 o4 o5 o6 o7 rest) (_ : (∀ p ∈ rest, OffC L p.1)) (_ : R.length = 6) (_ : SceneAt w rest wh R mk fl q cs hs ms) (_ : m (Str.ofString "whole") = some (.ref wh)) : P15 w L m news
theorem row37_1 : True := by
  k_with "W:call ref" => ((k_here; (with_reducible show wpAny _ _ (call (Value.ref 418) _) _ _ _); k_extra "my c418"))
  exact trivial
theorem kept_kp {R : List Rw} {ig : Int → Bool} {n : Nat} : ∀ j ∈ keptN R ig n, kp R ig j = true := fun _ hj => (List.mem_filter.mp hj).2
theorem rk_short {R : List Rw} {ig : Int → Bool} {j : Nat} (hj : j < R.length) (hk : kp R ig j = true) : ((rk R ig j : Nat) : Int) < ((shortR R ig).length : Int) := by
  rw [short_len]; exact Int.ofNat_lt.mpr (rk_lt hk hj)
theorem AnsAt.ref {n : Led} {r : Value} {A : Ans} (H : AnsAt n r A) : ∃ l, r = .ref l := let ⟨l, _, _, _, _, _, _, e, _⟩ := H; ⟨l, e⟩

theorem calm38 : True := by
  w_top off
  exact trivial
/-- a new object of the class C, whose dict tells fs -/
noncomputable def RNew (C : Addr) (fs : List DictEntry → Prop) (news : Led) (r : Value) (n : Led) : Prop :=
  ∃ x dx es k, r = .ref x ∧ fs es ∧ (∀ p ∈ news, p.1 < dx) ∧ dx < x ∧ ∀ p ∈ (x, instObj C dx) :: (dx, dictOf es k) :: news, p ∈ n
theorem Con.useNew {w : World} {mean : ExcName → Option Value} {mg mb : Str → Option Value} {d u : Nat} {f : Addr} {vs : List Value} {news : Led} {dp un : Nat} {gd : Option (List Code)} {cn : Str} {cs : Scope} {a : Addr} {ccd : Value} {cl : List (Str × Addr)} {outer : List Env} {A₀ : Around} {base h₀ : Heap} {L : Addr} {m : Str → Option Value} {s : Shared} {Q E : Value → Shared → Prop}
    {C : Addr} {fs : List DictEntry → Prop} (K : Con w mean mg mb d u f vs news (RNew C fs news)) (B : Below A₀ base outer h₀) (F : Fr h₀ L s.heap m) (X : (heapK w.params).In h₀) (N : News h₀ L s.heap news) (T : Top viewV (looseW viewV []) mean mg mb h₀) (hk : cs.kind = .function) (hdp : dp + d < recursionLimit) (hun : un + u < cLine)
    (ret : ∀ x dx es k h' tk', Fr h₀ L h' m → News h₀ L h' ((x, instObj C dx) :: (dx, dictOf es k) :: news) → (∀ p ∈ news, p.1 < dx) → dx < x → fs es → Q (.ref x) { s with heap := h', toks := tk' }) :
    wpAny (model Pg w) (ktrTop dp un gd cn cs L a ccd cl outer) (call (.ref f) vs) Q E s :=
  K.use B F X N T hk hdp hun fun r n h' tk' F' N' hr => by
    obtain ⟨x, dx, es, k, rfl, hf, hl, hx, hs⟩ := hr
    exact ret x dx es k h' tk' F' (cb_drop N' hs) hl hx hf
/-- a new Info, whose dict tells fs -/
noncomputable def RInf (fs : List DictEntry → Prop) (news : Led) (r : Value) (n : Led) : Prop :=
  ∃ x dx es, r = .ref x ∧ fs es ∧ (∀ p ∈ news, p.1 < dx) ∧ dx < x ∧ ∀ p ∈ (x, instObj 200 dx) :: (dx, dictOf es 15) :: news, p ∈ n
theorem Con.useInf {w : World} {mean : ExcName → Option Value} {mg mb : Str → Option Value} {d u : Nat} {f : Addr} {vs : List Value} {news : Led} {dp un : Nat} {gd : Option (List Code)} {cn : Str} {cs : Scope} {a : Addr} {ccd : Value} {cl : List (Str × Addr)} {outer : List Env} {A₀ : Around} {base h₀ : Heap} {L : Addr} {m : Str → Option Value} {s : Shared} {Q E : Value → Shared → Prop}
    {fs : List DictEntry → Prop} (K : Con w mean mg mb d u f vs news (RInf fs news)) (B : Below A₀ base outer h₀) (F : Fr h₀ L s.heap m) (X : (heapK w.params).In h₀) (N : News h₀ L s.heap news) (T : Top viewV (looseW viewV []) mean mg mb h₀) (hk : cs.kind = .function) (hdp : dp + d < recursionLimit) (hun : un + u < cLine)
    (ret : ∀ x dx es h' tk', Fr h₀ L h' m → News h₀ L h' ((x, instObj 200 dx) :: (dx, dictOf es 15) :: news) → (∀ p ∈ news, p.1 < dx) → dx < x → fs es → Q (.ref x) { s with heap := h', toks := tk' }) :
    wpAny (model Pg w) (ktrTop dp un gd cn cs L a ccd cl outer) (call (.ref f) vs) Q E s :=
  K.use B F X N T hk hdp hun fun r n h' tk' F' N' hr => by
    obtain ⟨x, dx, es, rfl, hf, hl, hx, hs⟩ := hr
    exact ret x dx es h' tk' F' (cb_drop N' hs) hl hx hf
theorem new_ne {l : Led} {d : Nat} (h : ∀ p ∈ l, p.1 < d) : ∀ p ∈ l, @Ne Nat p.1 d := fun p hp => Nat.ne_of_lt (h p hp)
theorem RInf.intro {x dx : Nat} {es : List DictEntry} {fs : List DictEntry → Prop} {news : Led} (l1 : ∀ p ∈ news, @LT.lt Nat _ p.1 dx) (l2 : dx < x) (hf : fs es) : RInf fs news (.ref x) ((x, instObj 200 dx) :: (dx, dictOf es 15) :: news) := ⟨x, dx, es, rfl, hf, l1, l2, fun _ h => h⟩
theorem new_ne2 {l : Led} {d x : Nat} (h : ∀ p ∈ l, p.1 < d) (h2 : d < x) : ∀ p ∈ l, @Ne Nat p.1 x := fun p hp => Nat.ne_of_lt (Nat.lt_trans (h p hp) h2)
theorem RNew.intro {C : Addr} {x dx : Nat} {es : List DictEntry} {k : Nat} {fs : List DictEntry → Prop} {news : Led} (l1 : ∀ p ∈ news, @LT.lt Nat _ p.1 dx) (l2 : dx < x) (hf : fs es) : RNew C fs news (.ref x) ((x, instObj C dx) :: (dx, dictOf es k) :: news) := ⟨x, dx, es, k, rfl, hf, l1, l2, fun _ h => h⟩
section
theorem row38_1 : True := by
  k_with "W:call ref" => ((with_reducible rename @Eq Nat 38 38 => mk38); (k_here; k_dflt (refine' call_cls ?k1 ?k2 ?k3 ?k4 ?k5 ?k6 ?_; (case k1 => k_asm); (case k2 => k_asm); (case k3 => k_asm); (case k4 => k_is); (case k5 => k_is); (case k6 => k_is); k_whole; intro x1ᵣ x2ᵣ x3ᵣ x4ᵣ x5ᵣ x6ᵣ x7ᵣ; (have x14ᵣ := new_ne x6ᵣ); (have x15ᵣ := new_ne2 x6ᵣ x7ᵣ); (try k_lt x6ᵣ); (try k_lt2 x7ᵣ); (try k_sweep); refine' code_def ?k1 ?k2 ?k3 ?k4 ?k5 ?kA ?kF ?kK ?k6 ?k7 ?k8 ?k9 ?kB ?_ ?c2 ?c3 ?c4 ?c5; (case kA => exact rfl); (case kF => exact rfl); (case kK => assumption); (case k1 => k_asm); (case k2 => k_asm); (case k3 => k_asm); (case k4 => k_asm); (case k5 => k_asm); (case k6 => k_is); (case k7 => k_is); (case k8 => ktr_room); (case k9 => first | exact BindsTo.of_eq rfl | exact binds_K (by k_in) rfl (by k_is) rfl rfl rfl); (case c5 => decide); (case kB => exact locs rfl); (case c2 => exact rfl); (case c3 => exact rfl); (case c4 => exact rfl); k_whole; intro x8ᵣ x9ᵣ x3ᵣ x10ᵣ x4ᵣ x5ᵣ x11ᵣ x12ᵣ x13ᵣ; (try dsimp only); (try k_lift x11ᵣ); (try k_fold))))
  exact trivial
theorem new_buffer {w : World} {mean : ExcName → Option Value} {mg mb : Str → Option Value} {news : Led} {rw : Addr} :
    Con w mean mg mb 16 128 246 [.ref rw] news (RNew 246 (fun es => getL (Str.ofString "row") es = some (some (.ref rw))) news) := by
  have mk38 := @rfl Nat 38
  unfold Con; intro dp un gd cn csc a0 ccd cl outer A₀ base h₀ L m s Q E B F X N T hk hdp hun hret
  k_steps
  all_goals exact hret _ _ _ _ (by k_asm) (by k_asm) (RNew.intro (by assumption) (by assumption) (by with_unfolding_all rfl))
theorem new_lookup {w : World} {mean : ExcName → Option Value} {mg mb : Str → Option Value} {news : Led} {kd : Str} {tk tf tq : Tok} {fl q : Int} {ls : Addr} :
    Con w mean mg mb 16 128 43 [.str kd tk, .int fl tf, .int q tq, .ref ls] news (RNew 43 (fun es => getL (Str.ofString "flag") es = some (some (.int fl tf)) ∧ getL (Str.ofString "mark_set") es = some (some (.int q tq))) news) := by
  have mk38 := @rfl Nat 38
  unfold Con; intro dp un gd cn csc a0 ccd cl outer A₀ base h₀ L m s Q E B F X N T hk hdp hun hret
  k_steps
  all_goals exact hret _ _ _ _ (by k_asm) (by k_asm) (RNew.intro (by assumption) (by assumption) ⟨by with_unfolding_all rfl, by with_unfolding_all rfl⟩)
noncomputable def kv (P : Params) (s : String) (t : Tok) (v : Value) : DictEntry := { hash := PyData.keyHash P (Str.ofString s), key := .str (Str.ofString s) t, val := v }
/-- the dict of a new Info -/
inductive InfoE (P : Params) (co : Int) (t0 : Tok) (g : Int) (tg : Tok) (c : Int) (tc : Tok) : List DictEntry → Prop
  | mk (k1 k2 k3 k4 k5 k6 k7 k8 k9 k10 k11 k12 k13 k14 k15 v4 v6 v7 v8 v9 v10 v11 v12 v13 v14 v15 : Tok) : InfoE P co t0 g tg c tc [kv P "code" k1 (.int co t0), kv P "glyph" k2 (.int g tg), kv P "cluster" k3 (.int c tc), kv P "mask" k4 (.int 0 v4), kv P "is_unsafe" k5 (.bool false), kv P "lig_id" k6 (.int 0 v6), kv P "lig_part" k7 (.int 0 v7), kv P "lig_count" k8 (.int 0 v8), kv P "kind" k9 (.str (Str.ofString "") v9), kv P "x_advance" k10 (.int 0 v10), kv P "y_advance" k11 (.int 0 v11), kv P "x_offset" k12 (.int 0 v12), kv P "y_offset" k13 (.int 0 v13), kv P "parent" k14 (.int 0 v14), kv P "bond" k15 (.str (Str.ofString "") v15)]
theorem new_info {w : World} {mean : ExcName → Option Value} {mg mb : Str → Option Value} {news : Led} {co g c : Int} {t0 tg tc : Tok} :
    Con w mean mg mb 16 128 200 [.int co t0, .int g tg, .int c tc] news (RInf (InfoE w.params co t0 g tg c tc) news) := by
  have mk38 := @rfl Nat 38
  unfold Con; intro dp un gd cn csc a0 ccd cl outer A₀ base h₀ L m s Q E B F X N T hk hdp hun hret
  k_steps
  all_goals exact hret _ _ _ _ (by k_asm) (by k_asm) (RInf.intro (by assumption) (by assumption) (.mk _ _ _ _ _ _ _ _ _ _ _ _ _ _ _ _ _ _ _ _ _ _ _ _ _ _))
theorem new_scene {w : World} {mean : ExcName → Option Value} {mg mb : Str → Option Value} {news : Led} {bf gd ls lk : Addr} {mk : Int} {tm : Tok} :
    Con w mean mg mb 16 128 65 [.ref bf, .ref gd, .ref ls, .ref lk, .int mk tm] news (RNew 65 (fun es => getL (Str.ofString "buffer") es = some (some (.ref bf)) ∧ getL (Str.ofString "gdef") es = some (some (.ref gd)) ∧ getL (Str.ofString "lookup") es = some (some (.ref lk)) ∧ getL (Str.ofString "mask") es = some (some (.int mk tm))) news) := by
  have mk38 := @rfl Nat 38
  unfold Con; intro dp un gd cn csc a0 ccd cl outer A₀ base h₀ L m s Q E B F X N T hk hdp hun hret
  k_steps
  all_goals exact hret _ _ _ _ (by k_asm) (by k_asm) (RNew.intro (by assumption) (by assumption) ⟨by with_unfolding_all rfl, by with_unfolding_all rfl, by with_unfolding_all rfl, by with_unfolding_all rfl⟩)
end
theorem row38_2 : True := by
  k_with "W:call ref" => ((k_here; (with_reducible show wpAny _ _ (call (Value.ref 246) _) _ _ _); k_dflt (refine' Con.useNew new_buffer ?k1 ?k2 ?k3 ?k4 ?k5 ?kK ?kd ?ku ?_; tb_start; k_whole); intro x1ᵣ x2ᵣ x3ᵣ x4ᵣ x5ᵣ x6ᵣ x7ᵣ x8ᵣ x9ᵣ x10ᵣ x11ᵣ; (try k_lt x9ᵣ); (try k_lt2 x10ᵣ); (try k_sweep); (try k_fold)))
  exact trivial
theorem row38_3 : True := by
  k_with "W:call ref" => ((k_here; (with_reducible show wpAny _ _ (call (Value.ref 43) _) _ _ _); k_dflt (refine' Con.useNew new_lookup ?k1 ?k2 ?k3 ?k4 ?k5 ?kK ?kd ?ku ?_; tb_start; k_whole); intro x1ᵣ x2ᵣ x3ᵣ x4ᵣ x5ᵣ x6ᵣ x7ᵣ x8ᵣ x9ᵣ x10ᵣ x11ᵣ; (try k_lt x9ᵣ); (try k_lt2 x10ᵣ); (try k_sweep); (try k_fold)))
  exact trivial
theorem row38_4 : True := by
  k_with "W:call ref" => ((k_here; (with_reducible show wpAny _ _ (call (Value.ref 65) _) _ _ _); k_dflt (refine' Con.useNew new_scene ?k1 ?k2 ?k3 ?k4 ?k5 ?kK ?kd ?ku ?_; tb_start; k_whole); intro x1ᵣ x2ᵣ x3ᵣ x4ᵣ x5ᵣ x6ᵣ x7ᵣ x8ᵣ x9ᵣ x10ᵣ x11ᵣ; (try k_lt x9ᵣ); (try k_lt2 x10ᵣ); (try k_sweep); (try k_fold)))
  exact trivial
theorem row38_5 : True := by
  k_with "W:call ref" => ((k_here; (with_reducible show wpAny _ _ (call (Value.ref 200) _) _ _ _); k_dflt (refine' Con.useInf new_info ?k1 ?k2 ?k3 ?k4 ?k5 ?kK ?kd ?ku ?_; tb_start; k_whole); intro x1ᵣ x2ᵣ x3ᵣ x5ᵣ x6ᵣ x7ᵣ x8ᵣ x9ᵣ x10ᵣ x11ᵣ; (cases x11ᵣ); (try dsimp only [kv] at x8ᵣ); (try k_lt x9ᵣ); (try k_lt2 x10ᵣ); (try k_sweep); (try k_fold)))
  exact trivial

theorem calm50 : True := by
  w_top off
  exact trivial
theorem st7 {w : World} (K : Stg w 12 (P8 w)) : Stg w 10 (P7 w) := by
  k_with "my for" => skip
  k_with "my iter" => (((rename Fr _ _ _ _ => lF'); (rename News _ _ _ _ => lN'); ((k_extra "shade"; rename_i rwA hh1 l1 hh2 e6 FF NN dd6 hh3 tk3 tt1 uu1 vv1 hR hK; k_extra "light")); (obtain ⟨lN', -, -⟩ := fold_led [(rwA, lstO [] 0)] HT lN' (List.forall_mem_cons.mpr ⟨off_lt (by omega) (by omega), List.forall_mem_nil _⟩)); (with_unfolding_all refine' for_rngJ (n := 6) (rowJ L o1 o2 o3 o4 o5 e6 o7 tp cl n rest ws ns k m rwA) (by rfl) hR (by rfl) (by rfl) lF' lN' ?base (fun i' ti' m1' nx' h' tk' II oI hi' hJ' hlt' hne' F' N' => ?turn) (fun m1' nx' h' tk' hJ' F' N' => ?done)); (all_goals (try clear lF' lN' FF NN)); (case' turn => ((unfold rowJ at hJ'); obtain ⟨at2, ta2, rr, vr, kr, R, rfl, lo2, hi2, HT2, hw1, hw2, hw3, hsub, hRow, hlen, hgs, hmz⟩ := hJ'; (have hc2 := HT2.hc); (have hvl := hRow.len); (unfold OffC at hw2); (obtain ⟨z1, z2, z3, z4, z5, z6, z7⟩ := hw2); obtain ⟨q0', q1', q2', q3', q4', q5', q6', q7'⟩ := HT2.offs; (try dsimp only [lawLed] at N' hne'); (replace hne' := ne_nat hne'); (try simp only [List.forall_mem_cons] at hne')))))
  k_with "my stage" => ((with_reducible rename Stg _ 12 _ => K); (with_reducible show wpAny _ _ (execs (Stmt.Assign [Expr.Name (Str.ofString "mask") _] _ _ :: _) _) _ _ _); refine halt ?_)
  intro mean mg mb base h₀ L fa cd m news s Q B F X N T hP hQ
  obtain ⟨o1, o2, o3, o4, o5, o6, o7, v6, v7, tp, cl, at', ta, n, rest, ws, ns, k, lc, lh, b, tb, cs, hs, kn, lm, vm, km, gd, fl, q, tf, tq, rfl, lo, hi, HT, d1, d2, d3, d4, d5, d6, d7, hic, hih, b0, b1, hkn, hlm, him, hgd, fl0, fl1, q0, q1, hmm, hmg, hmf, hmn⟩ := hP
  have hc := HT.hc
  obtain ⟨t1, t2, t3, t4, t5, t6, t7⟩ := HT.htp
  obtain ⟨r0, r1, r2, r3, r4, r5, r6, r7⟩ := HT.offs
  unfold lA lEnv
  conv in (occs := *) lawScope => all_goals (whnf; dsimp only)
  conv in (List.drop _ _) => whnf
  dsimp only [lawLed] at N
  k_steps
  case' turn => exact row_end (by k_asm) (by k_asm) (by with_unfolding_all rfl) (by with_unfolding_all rfl) (by with_unfolding_all rfl) (by assumption) (by assumption) (by assumption) (by assumption) hne' (by omega) (by omega) HT2 hw1 ⟨z1, z2, z3, z4, z5, z6, z7⟩ hw3 hsub hRow hlen hi' hgs (fun z h1 h2 => (if_neg h2).trans ((if_neg h1).trans (hmz z h1 h2)))
  case' base => exact ⟨at', ta, rest, [], 0, [], rfl, lo, by omega, HT, Nat.ne_of_gt l1.2.2.2.2.2.2.2.1, OffC.of_lt l1.2.2.2.2.2.2.1, fun p hp => Nat.ne_of_lt (tb_ltOf l1.2.2.2.2.2.2.2.2 p hp), fun _ h => h, ⟨rfl, fun i r e => by simp at e, by decide⟩, rfl, (fun x h => nomatch h), fun _ _ _ => rfl⟩
  unfold Halt
  obtain ⟨at2, ta2, rr, vr, kr, R, rfl, lo2, hi2, HT2, hw1, hw2, hw3, hsub, hRow, hlen, hgs, hmz⟩ := hJ'
  have sub : ∀ p ∈ rest, p ∈ (rwA, lstO vr kr) :: rr := fun p hp => List.mem_cons_of_mem _ (hsub p hp)
  refine K mean mg mb base h₀ L fa cd _ _ _ Q B F' X N' T
    ⟨o1, o2, o3, o4, o5, e6, o7, v7, tp, cl, at2, ta2, n, (rwA, lstO vr kr) :: rr, ws, ns, k, lc, lh, b, tb, cs, hs, kn, lm, vm, km, gd, fl, q, tf, tq, rwA, vr, kr, R, rfl, lo2, by omega, HT2.cons hw1 hw2, d1, d2, d3, d4, d5, dd6, d7, hic.mono sub, hih.mono sub, b0, b1, hkn.mono sub, sub _ hlm, him, hgd.mono sub, fl0, fl1, q0, q1, List.mem_cons_self, hRow.mono (fun p hp => List.mem_cons_of_mem _ hp), hlen, hgs, (hmz _ (by decide) (by decide)).trans hmm, (hmz _ (by decide) (by decide)).trans hmg, (hmz _ (by decide) (by decide)).trans hmf, (hmz _ (by decide) (by decide)).trans hmn⟩ hQ

theorem calm51 : True := by
  w_top off
  exact trivial
theorem st8 {w : World} (K : Stg w 14 (P9 w)) : Stg w 12 (P8 w) := by
  k_with "my comp" => ((k_dflt (refine' CompSrc_rng ?q1 ?q2 ?q3 ?q4 ?q5 ?q6 ?_; (case q1 => rfl); (case q2 => k_asm); (case q3 => k_asm); (case q4 => assumption); (case q5 => omega); (case q6 => omega)); intro g; k_dflt (refine' comp_tests (g := fun a t r => lawLed L o1 o2 o3 o4 o5 o6 o7 tp cl a t n r) HT hkn ?hN ?ha0 (fun i ys at2 ta2 r I oI C oC D m₂ h tk E' hi hC F' N' off ne HT' hkn' ha hb => ?turn) (fun ys r Ts at2 ta2 hsub HT' hTs hlen => ?fin); (case hN => omega); (case ha0 => omega)); (case' turn => ((have off' := off); (try dsimp only [lawLed] at N' off'); (try simp only [LCg.Off3] at off'); (have hc' := HT'.hc); (obtain ⟨q0', q1', q2', q3', q4', q5', q6', q7'⟩ := TapeIn.offs HT'); k_sweep; (try k_fold))); (case' fin => ((try dsimp only [lawLed]); (have hys := hTs.len); (have hTf := hTs.few); (have hyf : ys.length ≤ 100 := by omega); (obtain ⟨q0', q1', q2', q3', q4', q5', q6', q7'⟩ := TapeIn.offs HT'); (try k_fold)))))
  k_with "my stage" => ((with_reducible rename Stg _ 14 _ => K); (with_reducible show wpAny _ _ (execs (Stmt.Assign [Expr.Name (Str.ofString "kept") _] _ _ :: _) _) _ _ _); refine halt ?_)
  intro mean mg mb base h₀ L fa cd m news s Q B F X N T hP hQ
  obtain ⟨o1, o2, o3, o4, o5, o6, o7, v7, tp, cl, at', ta, n, rest, ws, ns, k, lc, lh, b, tb, cs, hs, kn, lm, vm, km, gd, fl, q, tf, tq, rw, vr, kr, R, rfl, lo, hi, HT, d1, d2, d3, d4, d5, d6, d7, hic, hih, b0, b1, hkn, hlm, him, hgd, fl0, fl1, q0, q1, hrw, hRow, hR6, hRg, hmm, hmg, hmf, hmn⟩ := hP
  have hc := HT.hc
  obtain ⟨t1, t2, t3, t4, t5, t6, t7⟩ := HT.htp
  obtain ⟨r0, r1, r2, r3, r4, r5, r6, r7⟩ := HT.offs
  unfold lA lEnv
  conv in (occs := *) lawScope => all_goals (whnf; dsimp only)
  conv in (List.drop _ _) => whnf
  dsimp only [lawLed] at N
  k_steps
  all_goals first
    | exact tests_end (by assumption) (by assumption) off (by assumption) (by assumption)
    | skip
  unfold Halt
  (k_extra "shade"; rename_i D1 hh1 tk1 off1 D2 hh2 l2 hh3 F8 N8; k_extra "light")
  have sub1 : ∀ p ∈ r, p ∈ (D2, tupO ys 0) :: (D1, LCg.lst ys) :: (tp, lstO [.ref cl, .int at2 ta2] n) :: r := fun p hp => by simp only [List.mem_cons, hp, or_true]
  have sub : ∀ p ∈ rest, p ∈ (D2, tupO ys 0) :: (D1, LCg.lst ys) :: (tp, lstO [.ref cl, .int at2 ta2] n) :: r := fun p hp => sub1 p (hsub p hp)
  refine K mean mg mb base h₀ L fa cd _ _ _ Q B F8 X (fold_tests N8) T
    ⟨o1, o2, o3, o4, o5, o6, o7, v7, (D2, tupO ys 0) :: (D1, LCg.lst ys) :: (tp, lstO [.ref cl, .int at2 ta2] n) :: r, lc, lh, b, cs, hs, lm, vm, km, gd, fl, q, tf, tq, rw, vr, kr, R, _, D2, ys, 0, Ts, _, rfl, List.forall_mem_cons.mpr ⟨OffC.of_lt l2.2.2.2.2.2.2.2.1, List.forall_mem_cons.mpr ⟨(off_new off1).2, List.forall_mem_cons.mpr ⟨HT.htp, HT'.hlo⟩⟩⟩, d2, d3, d6, d7, hic.mono sub, hih.mono sub, b0, b1, sub _ hlm, him, hgd.mono sub, fl0, fl1, q0, q1, sub _ hrw, hRow.mono sub, hR6, hRg, List.mem_cons_self, hTs.mono sub1, by omega,
     (if_neg (by decide)).trans ((if_neg (by decide)).trans hmm), (if_neg (by decide)).trans ((if_neg (by decide)).trans hmg), (if_neg (by decide)).trans ((if_neg (by decide)).trans hmf), (if_neg (by decide)).trans ((if_neg (by decide)).trans hmn), (if_neg (by decide)).trans (if_pos rfl), if_pos rfl⟩ hQ

theorem calm52 : True := by
  w_top off
  exact trivial
theorem st9 {w : World} (K : Stg w 16 (P10 w)) : Stg w 14 (P9 w) := by
  k_with "my for" => skip
  k_with "my iter" => (((rename Fr _ _ _ _ => lF'); (rename News _ _ _ _ => lN'); ((k_extra "shade"; rename_i klA hh1 l1 hh2 e7 FF NN dd7 hh3 tk3 tt1 uu1 vv1 hR hK; k_extra "light")); (replace lN' := fold_one lN'); (with_unfolding_all refine' for_rngJ (n := 6) (keptJ L o1 o2 o3 o4 o5 o6 e7 rest klA m R (ignM (tabC cs 8) (tabC hs 8) (bitsL b) fl q)) (by rfl) hR (by rfl) (by rfl) lF' lN' ?base (fun i' ti' m1' nx' h' tk' II oI hi' hJ' hlt' hne' F' N' => ?turn) (fun m1' nx' h' tk' hJ' F' N' => ?done)); (all_goals (try clear lF' lN' FF NN)); (case' turn => ((unfold keptJ at hJ'); obtain ⟨vk, kk, rfl, hvk, hmz⟩ := hJ'; (have hkf := kept_few R (ignM (tabC cs 8) (tabC hs 8) (bitsL b) fl q) i'); (have hii : i' < R.length := by omega); (obtain ⟨hg0, hg1⟩ := row_bnd hRg hii); (obtain ⟨hc0, hc1⟩ := getD_bnd8 lenc bc hg0 hg1); (obtain ⟨hh0, hh1⟩ := getD_bnd8 lenh bh hg0 hg1); (have hk0 : ∀ p ∈ rest, @Ne Nat p.1 klA := fun p hp => Nat.ne_of_lt (tb_ltOf l1.2.2.2.2.2.2.2 p hp)); (replace F' := fr_put (fr_put (fr_put F' ((if_neg (by decide)).trans ((hmz (Str.ofString "marks") (by decide) (by decide)).trans hmm))) ((if_neg (by decide)).trans ((if_neg (by decide)).trans ((hmz (Str.ofString "number") (by decide) (by decide)).trans hmn)))) ((if_neg (by decide)).trans ((if_neg (by decide)).trans ((if_neg (by decide)).trans ((hmz (Str.ofString "flag") (by decide) (by decide)).trans hmf))))); (replace hne' := ne_nat hne'); (try simp only [List.forall_mem_cons] at hne')))))
  k_with "my stage" => ((with_reducible rename Stg _ 16 _ => K); (with_reducible show wpAny _ _ (execs (Stmt.Assign [Expr.Name (Str.ofString "whole") _] _ _ :: _) _) _ _ _); refine halt ?_)
  intro mean mg mb base h₀ L fa cd m news s Q B F X N T hP hQ
  obtain ⟨o1, o2, o3, o4, o5, o6, o7, v7, rest, lc, lh, b, cs, hs, lm, vm, km, gd, fl, q, tf, tq, rw, vr, kr, R, tm, tt, vt, kt, Ts, mk, rfl, hoc, d2, d3, d6, d7, ⟨⟨vc, kc, mc, ic⟩, lenc, bc⟩, ⟨⟨vh, kh, mh, ih⟩, lenh, bh⟩, b0, b1, hlm, him, hgd, fl0, fl1, q0, q1, hrw, hRow, hR6, hRg, htt, hTs, hTs0, hmm, hmg, hmf, hmn, hmk, hmt⟩ := hP
  have r1 : ∀ p ∈ rest, @Ne Nat p.1 (L + 1) := fun p hp => (hoc p hp).1
  have r2 : ∀ p ∈ rest, @Ne Nat p.1 (L + 1 + 1) := fun p hp => (hoc p hp).2.1
  have r3 : ∀ p ∈ rest, @Ne Nat p.1 (L + 1 + 1 + 1) := fun p hp => (hoc p hp).2.2.1
  have r4 : ∀ p ∈ rest, @Ne Nat p.1 (L + 1 + 1 + 1 + 1) := fun p hp => (hoc p hp).2.2.2.1
  have r5 : ∀ p ∈ rest, @Ne Nat p.1 (L + 1 + 1 + 1 + 1 + 1) := fun p hp => (hoc p hp).2.2.2.2.1
  have r6 : ∀ p ∈ rest, @Ne Nat p.1 (L + 1 + 1 + 1 + 1 + 1 + 1) := fun p hp => (hoc p hp).2.2.2.2.2.1
  have r7 : ∀ p ∈ rest, @Ne Nat p.1 (L + 1 + 1 + 1 + 1 + 1 + 1 + 1) := fun p hp => (hoc p hp).2.2.2.2.2.2
  unfold lA lEnv
  conv in (occs := *) lawScope => all_goals (whnf; dsimp only)
  conv in (List.drop _ _) => whnf
  k_steps
  case' base => exact ⟨[], 0, rfl, .nil, fun _ _ _ => rfl⟩
  all_goals first
    | exact kept_no (by k_asm) (by k_asm) hvk hlt' (ign_law lenc bc lenh bh fl0 fl1 hg0 hg1 (hi_yes (by assumption))) (by assumption) (by intro z h1 h2; exact (if_neg h2).trans (put_keep hmf (put_keep hmn (put_keep hmm ((if_neg h1).trans (hmz z h1 h2))))))
    | exact kept_no (by k_asm) (by k_asm) hvk hlt' (ign_law lenc bc lenh bh fl0 fl1 hg0 hg1 (hi_no (by assumption))) (by assumption) (by intro z h1 h2; exact (if_neg h2).trans (put_keep hmf (put_keep hmn (put_keep hmm ((if_neg h1).trans (hmz z h1 h2))))))
    | exact kept_yes (by k_asm) (by k_asm) (by assumption) hlt' (ign_law lenc bc lenh bh fl0 fl1 hg0 hg1 (hi_yes (by assumption))) (by assumption) (by intro z h1 h2; exact (if_neg h2).trans (put_keep hmf (put_keep hmn (put_keep hmm ((if_neg h1).trans (hmz z h1 h2))))))
    | exact kept_yes (by k_asm) (by k_asm) (by assumption) hlt' (ign_law lenc bc lenh bh fl0 fl1 hg0 hg1 (hi_no (by assumption))) (by assumption) (by intro z h1 h2; exact (if_neg h2).trans (put_keep hmf (put_keep hmn (put_keep hmm ((if_neg h1).trans (hmz z h1 h2))))))
    | skip
  unfold Halt
  obtain ⟨vk, kk, rfl, hvk, hmz⟩ := hJ'
  have sub : ∀ p ∈ rest, p ∈ (klA, lstO vk kk) :: rest := fun p hp => List.mem_cons_of_mem _ hp
  refine K mean mg mb base h₀ L fa cd _ _ _ Q B F' X N' T
    ⟨o1, o2, o3, o4, o5, o6, e7, (klA, lstO vk kk) :: rest, b, cs, hs, gd, fl, q, tf, tq, rw, vr, kr, R, tm, tt, vt, kt, Ts, mk, klA, vk, kk, rfl, List.forall_mem_cons.mpr ⟨OffC.of_lt l1.2.2.2.2.2.2.1, hoc⟩, d6, dd7, hgd.mono sub, sub _ hrw, hRow.mono sub, hR6, sub _ htt, hTs.mono sub, hTs0, List.mem_cons_self, by rw [hR6]; exact hvk,
      (hmz _ (by decide) (by decide)).trans hmg, (hmz _ (by decide) (by decide)).trans hmf, (hmz _ (by decide) (by decide)).trans hmn, (hmz _ (by decide) (by decide)).trans hmk, (hmz _ (by decide) (by decide)).trans hmt⟩ hQ

theorem calm53 : True := by
  w_top off
  exact trivial
theorem st10 {w : World} (K : Stg w 17 (P11 w)) : Stg w 16 (P10 w) := by
  k_with "my stage" => ((with_reducible rename Stg _ 17 _ => K); (with_reducible show wpAny _ _ (execs (Stmt.Assign [Expr.Name (Str.ofString "short") _] _ _ :: _) _) _ _ _); refine halt ?_)
  intro mean mg mb base h₀ L fa cd m news s Q B F X N T hP hQ
  obtain ⟨o1, o2, o3, o4, o5, o6, o7, rest, b, cs, hs, gd, fl, q, tf, tq, rw, vr, kr, R, tm, tt, vt, kt, Ts, mk, kl, vk, kk, rfl, hoc, d6, d7, hgd, hrw, hRow, hR6, htt, hTs, hTs0, hkl, hvk, hmg, hmf, hmn, hmk, hmt⟩ := hP
  have F := fr_put (fr_put (fr_put (fr_put F hmg) ((if_neg (by decide)).trans hmf)) ((if_neg (by decide)).trans ((if_neg (by decide)).trans hmn))) ((if_neg (by decide)).trans ((if_neg (by decide)).trans ((if_neg (by decide)).trans hmk)))
  have r1 : ∀ p ∈ rest, @Ne Nat p.1 (L + 1) := fun p hp => (hoc p hp).1
  have r2 : ∀ p ∈ rest, @Ne Nat p.1 (L + 1 + 1) := fun p hp => (hoc p hp).2.1
  have r3 : ∀ p ∈ rest, @Ne Nat p.1 (L + 1 + 1 + 1) := fun p hp => (hoc p hp).2.2.1
  have r4 : ∀ p ∈ rest, @Ne Nat p.1 (L + 1 + 1 + 1 + 1) := fun p hp => (hoc p hp).2.2.2.1
  have r5 : ∀ p ∈ rest, @Ne Nat p.1 (L + 1 + 1 + 1 + 1 + 1) := fun p hp => (hoc p hp).2.2.2.2.1
  have r6 : ∀ p ∈ rest, @Ne Nat p.1 (L + 1 + 1 + 1 + 1 + 1 + 1) := fun p hp => (hoc p hp).2.2.2.2.2.1
  have r7 : ∀ p ∈ rest, @Ne Nat p.1 (L + 1 + 1 + 1 + 1 + 1 + 1 + 1) := fun p hp => (hoc p hp).2.2.2.2.2.2
  unfold lA lEnv
  conv in (occs := *) lawScope => all_goals (whnf; dsimp only)
  conv in (List.drop _ _) => whnf
  k_steps
  unfold Halt
  (k_extra "shade"; rename_i z1 z2 z3 z4 z5 z6 z7 z8 z9 z10 z11 z12 z13 z14 z15 z16 z17 z18 z19 z20 z21 z22 z23 z24 z25 z26 z27 z28 z29 z30 z31 z32 z33 z34 z35 z36; k_extra "light")
  have y9 := lt_nat z9
  have y24 := lt_nat z24
  have y33 := lt_nat z33
  obtain ⟨N9, hoff, sub⟩ := fold_rest [_, _, _, _, _, _, _, _] z36 hoc (by repeat (first | exact List.forall_mem_nil _ | refine List.forall_mem_cons.mpr ⟨OffC.of_lt (by omega), ?_⟩))
  simp only [List.cons_append, List.nil_append] at N9 hoff sub
  refine K mean mg mb base h₀ L fa cd _ _ _ Q B z35 X N9 T
    ⟨o1, o2, o3, o4, o5, o6, o7, _, b, cs, hs, gd, fl, q, rw, vr, kr, R, tm, tt, vt, kt, Ts, mk, kl, vk, kk, z25, rfl, hoff, d6, d7, hgd.mono sub, sub _ hrw, hRow.mono sub, hR6, sub _ htt, hTs.mono sub, hTs0, sub _ hkl, hvk,
      ⟨⟨z26, z27, z28, z1, z2, z3, z4, rw, vr, kr, gd, z16, _, by k_mem, by k_mem, z31.1, z31.2.1, z31.2.2.1, z31.2.2.2, by k_mem, by k_mem, z7, sub _ hrw, hRow.mono sub, hgd.mono sub, ⟨⟨z17, z18, z19, _, _, by k_mem, by k_mem, z22.1, z22.2⟩⟩⟩⟩,
      by with_unfolding_all rfl, by with_unfolding_all rfl, by with_unfolding_all exact hmt, by with_unfolding_all rfl⟩ hQ

theorem calm54 : True := by
  w_top off
  exact trivial
section
theorem row54_1 : True := by
  k_with "W:subscriptTail" => ((with_reducible rename Stg _ 18 _ => K); (k_here; (with_reducible show wpAny _ _ (subscriptTail _ _ (Value.ref _) (Value.int _ _)) _ _ _); k_dflt (refine' item_rowS ?k1 ?k2 ?k3 ?k5 ?k6 ?_; (case k1 => k_asm); (case k2 => k_mem); (case k3 => assumption); (case k5 => first | k_asm | omega); (case k6 => first | k_asm | omega); k_whole); intro x1ᵣ x2ᵣ))
  exact trivial
theorem st11 {w : World} (K : Stg w 18 (P12 w)) : Stg w 17 (P11 w) := by
  k_with "my comp" => ((k_dflt (refine' LCg.CompSrc.ledger ?q1 ?q2 ?q3 ?q4 ?q5 ?_; (case q1 => rfl); (case q2 => k_asm); (case q3 => k_asm); (case q4 => k_mem); (case q5 => exact hvs)); intro g; k_dflt (refine' comp_short (rest := rest) hvk kept_lt (kept_len8 hR6) (fun j ys tj I oI C oC D m₂ h tk E' hC hx F' N' off ne ha hb => ?turn) (fun ys hR' => ?fin)); (case' turn => ((have off' := off); (try dsimp only at N' off'); (try simp only [LCg.Off3] at off'); k_sweep; (try k_fold))); (case' fin => (try k_fold))))
  k_with "my stage" => ((with_reducible rename Stg _ 18 _ => K); (with_reducible show wpAny _ _ (execs (Stmt.Assign [Expr.Name (Str.ofString "places") _] _ _ :: _) _) _ _ _); refine halt ?_)
  intro mean mg mb base h₀ L fa cd m news s Q B F X N T hP hQ
  obtain ⟨o1, o2, o3, o4, o5, o6, o7, rest, b, cs, hs, gd, fl, q, rw, vr, kr, R, tm, tt, vt, kt, Ts, mk, kl, vk, kk, wh, rfl, hoc, d6, d7, hgd, hrw, hRow, hR6, htt, hTs, hTs0, hkl, hvk, hwh, hmg, hmk, hmt, hmw⟩ := hP
  have F := fr_put (fr_put F hmg) ((if_neg (by decide)).trans hmk)
  have r1 : ∀ p ∈ rest, @Ne Nat p.1 (L + 1) := fun p hp => (hoc p hp).1
  have r2 : ∀ p ∈ rest, @Ne Nat p.1 (L + 1 + 1) := fun p hp => (hoc p hp).2.1
  have r3 : ∀ p ∈ rest, @Ne Nat p.1 (L + 1 + 1 + 1) := fun p hp => (hoc p hp).2.2.1
  have r4 : ∀ p ∈ rest, @Ne Nat p.1 (L + 1 + 1 + 1 + 1) := fun p hp => (hoc p hp).2.2.2.1
  have r5 : ∀ p ∈ rest, @Ne Nat p.1 (L + 1 + 1 + 1 + 1 + 1) := fun p hp => (hoc p hp).2.2.2.2.1
  have r6 : ∀ p ∈ rest, @Ne Nat p.1 (L + 1 + 1 + 1 + 1 + 1 + 1) := fun p hp => (hoc p hp).2.2.2.2.2.1
  have r7 : ∀ p ∈ rest, @Ne Nat p.1 (L + 1 + 1 + 1 + 1 + 1 + 1 + 1) := fun p hp => (hoc p hp).2.2.2.2.2.2
  have hvs : vk.toArray.size ≤ sizeLine := by
    have := kept_few R (ignM (tabC cs 8) (tabC hs 8) (bitsL b) fl q) R.length
    rw [List.size_toArray, hvk.length, sizeLine_eq]; omega
  unfold lA lEnv
  conv in (occs := *) lawScope => all_goals (whnf; dsimp only)
  conv in (List.drop _ _) => whnf
  dsimp only [cellsL] at N
  k_steps
  case' fin => k_steps
  case' turn => exact short_end (by assumption) (by assumption) off hkl (by assumption)
  unfold Halt
  (k_extra "shade"; rename_i z1 z2 z3 z4 z5 z6 z7 z8 z9 z10 z11 z12 z13 z14 z15 z16 z17 z18 z19 z20 z21 z22 z23 z24 z25 z26 z27 z28 z29 z30 z31 z32 z33 z34 z35 z36 z37 z38 z39 z40; k_extra "light")
  have y13 := lt_nat z13
  have y28 := lt_nat z28
  have y37 := lt_nat z37
  obtain ⟨N9, hoff, sub⟩ := fold_rest [_, _, _, _, _, _, _, _, _] z40 hoc (by repeat (first | exact List.forall_mem_nil _ | refine List.forall_mem_cons.mpr ⟨OffC.of_lt (by omega), ?_⟩ | refine List.forall_mem_cons.mpr ⟨by unfold OffC; omega, ?_⟩))
  simp only [List.cons_append, List.nil_append] at N9 hoff sub
  refine K mean mg mb base h₀ L fa cd _ _ _ Q B z39 X N9 T
    ⟨o1, o2, o3, o4, o5, o6, o7, _, b, cs, hs, fl, q, R, tt, vt, kt, Ts, mk, kl, vk, kk, wh, z29, rfl, hoff, d7, hR6, sub _ htt, hTs.mono sub, hTs0, sub _ hkl, hvk, hwh.mono sub,
      ⟨⟨z30, z31, z32, z5, z6, z7, z8, z1, ys, _, gd, z20, _, by k_mem, by k_mem, z35.1, z35.2.1, z35.2.2.1, z35.2.2.2, by k_mem, by k_mem, z11, by k_mem, hR'.mono sub, hgd.mono sub, ⟨⟨z21, z22, z23, _, _, by k_mem, by k_mem, z26.1, z26.2⟩⟩⟩⟩,
      by with_unfolding_all exact hmt, by with_unfolding_all exact hmw, by with_unfolding_all rfl⟩ hQ
end

theorem calm55 : True := by
  w_top off
  exact trivial
theorem st12 {w : World} (K : Stg w 19 (P13 w)) : Stg w 18 (P12 w) := by
  k_with "my comp" => ((k_dflt (refine' CompSrc_rng ?q1 ?q2 ?q3 ?q4 ?q5 ?q6 ?_; (case q1 => rfl); (case q2 => k_asm); (case q3 => k_asm); (case q4 => assumption); (case q5 => omega); (case q6 => omega)); intro g; k_dflt (refine' comp_pairs (g := fun r => cellsL L o1 o2 o3 o4 o5 o6 o7 r) (placeF (keptN R (ignM (tabC cs 8) (tabC hs 8) (bitsL b) fl q) R.length)) hoc (fun i ys ti r I oI C oC D m₂ h tk E' hi hC hx F' N' off ne hsub hof ha hb => ?turn) (fun ys r hsub hof hP => ?fin)); (case' turn => ((have off' := off); (have hkl' := hsub _ hkl); (try dsimp only [cellsL] at N' off'); (try simp only [LCg.Off3] at off'); k_sweep; (try k_fold))); (case' fin => ((rw [places_eq] at hP); (have hnd := placesL_nodup (keptN_nodup R (ignM (tabC cs 8) (tabC hs 8) (bitsL b) fl q) R.length)); (try dsimp only [cellsL]); (try k_fold)))))
  k_with "my stage" => ((with_reducible rename Stg _ 19 _ => K); (with_reducible show wpAny _ _ (execs (Stmt.Assign [Expr.Name (Str.ofString "same") _] _ _ :: _) _) _ _ _); refine halt ?_)
  intro mean mg mb base h₀ L fa cd m news s Q B F X N T hP hQ
  obtain ⟨o1, o2, o3, o4, o5, o6, o7, rest, b, cs, hs, fl, q, R, tt, vt, kt, Ts, mk, kl, vk, kk, wh, sh, rfl, hoc, d7, hR6, htt, hTs, hTs0, hkl, hvk, hwh, hsh, hmt, hmw, hms⟩ := hP
  have hkf : ((keptN R (ignM (tabC cs 8) (tabC hs 8) (bitsL b) fl q) R.length).map Int.ofNat).length ≤ 6 := hR6 ▸ kept_few R _ R.length
  have hpl : (placesL (keptN R (ignM (tabC cs 8) (tabC hs 8) (bitsL b) fl q) R.length) (keptN R (ignM (tabC cs 8) (tabC hs 8) (bitsL b) fl q) R.length).length).length ≤ 100 := by
    rw [placesL_len]; rw [List.length_map] at hkf; omega
  unfold lA lEnv
  conv in (occs := *) lawScope => all_goals (whnf; dsimp only)
  conv in (List.drop _ _) => whnf
  dsimp only [cellsL] at N
  k_steps
  case' fin => k_steps
  case' turn => exact pairs_end (by assumption) (by assumption) off (by assumption)
  unfold Halt
  (k_extra "shade"; rename_i z1 z2 z3 z4 z5 z6 z7 z8 z9 z10 z11 z12 z13 z14 z15 z16 z17 z18 z19 z20; k_extra "light")
  obtain ⟨N9, hoff, sub⟩ := fold_rest [_, _] z20 hof (by repeat (first | exact List.forall_mem_nil _ | refine List.forall_mem_cons.mpr ⟨OffC.of_lt (by omega), ?_⟩ | refine List.forall_mem_cons.mpr ⟨by unfold OffC; omega, ?_⟩))
  simp only [List.cons_append, List.nil_append] at N9 hoff sub
  replace sub := fun p hp => sub p (hsub p hp)
  refine K mean mg mb base h₀ L fa cd _ _ _ Q B z19 X N9 T
    ⟨o1, o2, o3, o4, o5, o6, o7, _, b, cs, hs, fl, q, R, tt, vt, kt, Ts, mk, kl, vk, kk, wh, sh, z12, rfl, hoff, d7, hR6, sub _ htt, hTs.mono sub, hTs0, sub _ hkl, hvk, hwh.mono sub, hsh.mono sub, z16.one (by k_mem),
      (if_neg (by decide)).trans hmt, (if_neg (by decide)).trans hmw, (if_neg (by decide)).trans hms, if_pos rfl⟩ hQ

theorem calm56 : True := by
  w_top off
  exact trivial
theorem st13 {w : World} (K : Stg w 20 (P14 w)) : Stg w 19 (P13 w) := by
  k_with "my comp" => ((k_dflt (refine' CompSrc_rng ?q1 ?q2 ?q3 ?q4 ?q5 ?q6 ?_; (case q1 => rfl); (case q2 => k_asm); (case q3 => k_asm); (case q4 => assumption); (case q5 => omega); (case q6 => omega)); intro g; k_dflt (refine' comp_pairs (g := fun r => cellsL L o1 o2 o3 o4 o5 o6 o7 r) sameF hoc (fun i ys ti r I oI C oC D m₂ h tk E' hi hC hx F' N' off ne hsub hof ha hb => ?turn) (fun ys r hsub hof hP => ?fin)); (case' turn => ((have off' := off); (have hkl' := hsub _ hkl); (try dsimp only [cellsL] at N' off'); (try simp only [LCg.Off3] at off'); k_sweep; (try k_fold))); (case' fin => ((rw [same_eq] at hP); (have hnd := sameL_nodup (keptN R (ignM (tabC cs 8) (tabC hs 8) (bitsL b) fl q) R.length).length); (try dsimp only [cellsL]); (try k_fold)))))
  k_with "my stage" => ((with_reducible rename Stg _ 20 _ => K); (with_reducible show wpAny _ _ (execs (Stmt.For (Expr.Name (Str.ofString "k") _) (Expr.Name (Str.ofString "kept") _) _ _ _ :: _) _) _ _ _); refine halt ?_)
  intro mean mg mb base h₀ L fa cd m news s Q B F X N T hP hQ
  obtain ⟨o1, o2, o3, o4, o5, o6, o7, rest, b, cs, hs, fl, q, R, tt, vt, kt, Ts, mk, kl, vk, kk, wh, sh, pl, rfl, hoc, d7, hR6, htt, hTs, hTs0, hkl, hvk, hwh, hsh, hpd, hmt, hmw, hms, hmp⟩ := hP
  have hkf : ((keptN R (ignM (tabC cs 8) (tabC hs 8) (bitsL b) fl q) R.length).map Int.ofNat).length ≤ 6 := hR6 ▸ kept_few R _ R.length
  have hpl : (sameL (keptN R (ignM (tabC cs 8) (tabC hs 8) (bitsL b) fl q) R.length).length).length ≤ 100 := by
    rw [sameL_len]; rw [List.length_map] at hkf; omega
  unfold lA lEnv
  conv in (occs := *) lawScope => all_goals (whnf; dsimp only)
  conv in (List.drop _ _) => whnf
  dsimp only [cellsL] at N
  k_steps
  case' fin => k_steps
  case' turn => exact pairs_end (by assumption) (by assumption) off (by assumption)
  unfold Halt
  (k_extra "shade"; rename_i z1 z2 z3 z4 z5 z6 z7 z8 z9 z10 z11 z12 z13 z14 z15 z16 z17 z18 z19 z20; k_extra "light")
  obtain ⟨N9, hoff, sub⟩ := fold_rest [_, _] z20 hof (by repeat (first | exact List.forall_mem_nil _ | refine List.forall_mem_cons.mpr ⟨OffC.of_lt (by omega), ?_⟩ | refine List.forall_mem_cons.mpr ⟨by unfold OffC; omega, ?_⟩))
  simp only [List.cons_append, List.nil_append] at N9 hoff sub
  replace sub := fun p hp => sub p (hsub p hp)
  refine K mean mg mb base h₀ L fa cd _ _ _ Q B z19 X N9 T
    ⟨o1, o2, o3, o4, o5, o6, o7, _, b, cs, hs, fl, q, R, tt, vt, kt, Ts, mk, kl, vk, kk, wh, sh, pl, z12, rfl, hoff, d7, hR6, sub _ htt, hTs.mono sub, hTs0, sub _ hkl, hvk, hwh.mono sub, hsh.mono sub, hpd.mono sub, z16.one (by k_mem),
      (if_neg (by decide)).trans hmt, (if_neg (by decide)).trans hmw, (if_neg (by decide)).trans hms, (if_neg (by decide)).trans hmp, if_pos rfl⟩ hQ

theorem calm57 : True := by
  w_top off
  exact trivial
section
theorem row57_1 : True := by
  k_with "W:compareOp NotEq ref ref" => ((with_reducible rename Stg _ 21 _ => K); (k_here; k_dflt (refine' ne_ans ?k1 ?k2 ?k3 ?k4 ?k5 ?_; (case k1 => k_asm); (case k2 => assumption); (case k3 => assumption); (case k4 => assumption); (case k5 => first | ke_room | ktr_units); k_whole)))
  exact trivial
theorem row57_2 : True := by
  k_with "W:subscriptTail" => ((with_reducible rename Stg _ 21 _ => K); (k_here; (with_reducible show wpAny _ _ (subscriptTail _ _ (Value.ref _) (Value.int _ _)) _ _ _); k_dflt (refine' places_item ?k1 (DicAt.mono ?k2 ?k3) ?k4 ?k5 ?_; (case k1 => k_asm); (case k2 => assumption); (case k3 => assumption); (case k4 => assumption); (case k5 => assumption); k_whole); intro x1ᵣ))
  exact trivial
theorem row57_3 : True := by
  k_with "W:subscriptTail Name Name ref int" => ((with_reducible rename Stg _ 21 _ => K); (k_here; (with_reducible show wpAny _ _ (subscriptTail _ _ (Value.ref _) (Value.int _ _)) _ _ _); k_dflt (refine' places_item ?k1 (DicAt.mono ?k2 ?k3) ?k4 ?k5 ?_; (case k1 => k_asm); (case k2 => assumption); (case k3 => assumption); (case k4 => assumption); (case k5 => assumption); k_whole); intro x1ᵣ))
  exact trivial
theorem st14 {w : World} (K : Stg w 21 (P15 w)) : Stg w 20 (P14 w) := by
  k_with "my for" => skip
  k_with "my iter" => (((rename Fr _ _ _ _ => lF'); (rename News _ _ _ _ => lN'); (with_unfolding_all refine' for_kept (by rfl) hklc hvk lF' lN' (fun j tj h' tk' II oI hj hlt' F' N' => ?turn) (fun u h' tk' F' N' => ?done)); (case' turn => ((have hjl := kept_lt j hj); (have hjk := kept_kp j hj); (have h0a : 0 ≤ ((j : Nat) : Int) := Int.natCast_nonneg j); (have h1a : ((j : Nat) : Int) < (R.length : Int) := Int.ofNat_lt.mpr hjl); (have h0b : 0 ≤ ((rk R (ignM (tabC cs 8) (tabC hs 8) (bitsL b) fl q) j : Nat) : Int) := Int.natCast_nonneg _); (have h1b := rk_short hjl hjk); (have hE := ans_same (mask := mk) (ig' := ignM (tabC cs 8) (tabC hs 8) (bitsL b) 0 0) (fun g => ign_none _ _ _ g) Ts hjl hjk); (have si : ∀ p ∈ (II, oI) :: cellsL L o1 o2 o3 o4 o5 o6 o7 rest, p ∈ (II, oI) :: cellsL L o1 o2 o3 o4 o5 o6 o7 rest := fun _ hp => hp); (have sb : ∀ p ∈ rest, p ∈ (II, oI) :: cellsL L o1 o2 o3 o4 o5 o6 o7 rest := fun p hp => by simp only [List.mem_cons, hp, or_true])))))
  k_with "my c418" => ((k_dflt (refine' Con.use (answers_con (SceneAt.mono ?cH ?s1) ?ct (TestsIn.mono ?cT ?s2) (DicAt.mono ?cD ?s3) ?c0 ?c1 hTs0) ?k1 ?k2 ?k3 ?k4 ?k5 ?kK ?kd ?ku ?_; tb_start; (case cH => assumption); (case cT => exact hTs); (case cD => assumption); (case s1 => exact sb); (case s2 => exact sb); (case s3 => exact sb); (case ct => exact sb _ htt); (case c0 => assumption); (case c1 => assumption); k_whole); intro r9 n9 h9 tk9 F9 N9 hr9; (try (rename AnsAt _ _ _ => hA8)); obtain ⟨s9, hA9⟩ := hr9; (try (replace hA8 := AnsAt.mono hA8 s9)); (replace sb := fun p hp => s9 p (sb p hp)); (replace si := fun p hp => s9 p (si p hp)); (obtain ⟨l9, e9⟩ := AnsAt.ref hA9); subst e9; (try k_fold)))
  k_with "my stage" => ((with_reducible rename Stg _ 21 _ => K); (with_reducible show wpAny _ _ (execs (Stmt.Return (some (Expr.BoolOp _ _ _)) _ :: _) _) _ _ _); refine halt ?_)
  intro mean mg mb base h₀ L fa cd m news s Q B F X N T hP hQ
  obtain ⟨o1, o2, o3, o4, o5, o6, o7, rest, b, cs, hs, fl, q, R, tt, vt, kt, Ts, mk, kl, vk, kk, wh, sh, pl, sm, rfl, hoc, d7, hR6, htt, hTs, hTs0, hkl, hvk, hwh, hsh, hpd, hsd, hmt, hmw, hms, hmp, hmsm⟩ := hP
  have F := fr_put (fr_put (fr_put (fr_put (fr_put F hmt) ((if_neg (by decide)).trans hmw)) ((if_neg (by decide)).trans ((if_neg (by decide)).trans hms))) ((if_neg (by decide)).trans ((if_neg (by decide)).trans ((if_neg (by decide)).trans hmp)))) ((if_neg (by decide)).trans ((if_neg (by decide)).trans ((if_neg (by decide)).trans ((if_neg (by decide)).trans hmsm))))
  have hklc : (kl, lstO vk kk) ∈ cellsL L o1 o2 o3 o4 o5 o6 o7 rest := by simp only [List.mem_cons, hkl, or_true]
  unfold lA lEnv
  conv in (occs := *) lawScope => all_goals (whnf; dsimp only)
  conv in (List.drop _ _) => whnf
  k_steps
  case' turn => exact FEnd.intro (cellsL L o1 o2 o3 o4 o5 o6 o7 rest) (by k_asm) (by k_asm) si (fun p hp => Nat.ne_of_lt (hlt' p hp)) ⟨rfl, fun z hz => if_neg hz⟩
  unfold Halt
  exact K mean mg mb base h₀ L fa cd _ _ _ Q B F' X N' T ⟨o1, o2, o3, o4, o5, o6, o7, rest, tabC cs 8, tabC hs 8, bitsL b, fl, q, R, mk, wh, rfl, hoc, hR6, hwh, (if_neg (by decide)).trans ((if_neg (by decide)).trans ((if_neg (by decide)).trans ((if_neg (by decide)).trans (if_pos rfl))))⟩ hQ
end

theorem calm58 : True := by
  w_top off
  exact trivial
section
theorem tests_nil {w : World} {news : Led} : TestsIn w news [] [] := ⟨rfl, fun i T e => by simp at e, by decide⟩
theorem ahead_nil {w : World} {mean : ExcName → Option Value} {mg mb : Str → Option Value} {news : Led} {x tt : Addr} {R : List Rw} {mask flag q : Int} {cs as : List (Int × Int)} {ms : List Int} {k : Int} {tk : Tok} {kt : Nat} (H : SceneAt w news x R mask flag q cs as ms) (htt : (tt, tupO [] kt) ∈ news) :
    Con w mean mg mb 16 128 162 [.ref x, .int k tk, .ref tt] news (RI news k) := ahead_con H htt tests_nil
theorem back_nil {w : World} {mean : ExcName → Option Value} {mg mb : Str → Option Value} {news : Led} {x tt : Addr} {R : List Rw} {mask flag q : Int} {cs as : List (Int × Int)} {ms : List Int} {k : Int} {tk : Tok} {kt : Nat} (H : SceneAt w news x R mask flag q cs as ms) (htt : (tt, tupO [] kt) ∈ news) :
    Con w mean mg mb 16 128 169 [.ref x, .int k tk, .ref tt] news (RI news k) := back_con H htt tests_nil
theorem row58_1 : True := by
  k_with "W:call ref" => ((k_here; (with_reducible show wpAny _ _ (call (Value.ref 162) _) _ _ _); k_dflt (refine' Con.useI (ahead_nil (SceneAt.mono ?cH ?s1) ?c1) ?k1 ?k2 ?k3 ?k4 ?k5 ?kK ?kd ?ku ?_; tb_start; (case cH => assumption); (case s1 => exact (fun p hp => by simp only [List.mem_cons, hp, or_true])); (case c1 => k_mem); k_whole); intro x1ᵣ x2ᵣ x3ᵣ x4ᵣ x5ᵣ; (try k_sweep); (try k_fold)))
  exact trivial
theorem row58_2 : True := by
  k_with "W:call ref" => ((k_here; (with_reducible show wpAny _ _ (call (Value.ref 169) _) _ _ _); k_dflt (refine' Con.useI (back_nil (SceneAt.mono ?cH ?s1) ?c1) ?k1 ?k2 ?k3 ?k4 ?k5 ?kK ?kd ?ku ?_; tb_start; (case cH => assumption); (case s1 => exact (fun p hp => by simp only [List.mem_cons, hp, or_true])); (case c1 => k_mem); k_whole); intro x1ᵣ x2ᵣ x3ᵣ x4ᵣ x5ᵣ; (try k_sweep); (try k_fold)))
  exact trivial
theorem st15 {w : World} : Stg w 21 (P15 w) := by
  intro mean mg mb base h₀ L fa cd m news s Q B F X N T hP hQ
  obtain ⟨o1, o2, o3, o4, o5, o6, o7, rest, cs, hs, ms, fl, q, R, mk, wh, rfl, hoc, hR6, hwh, hmw⟩ := hP
  have F := fr_put F hmw
  unfold lA lEnv
  conv in (occs := *) lawScope => all_goals (whnf; dsimp only)
  conv in (List.drop _ _) => whnf
  dsimp only [cellsL] at N
  k_steps
  exact hQ _ _ _ _ (by k_asm) (by k_asm)
end

theorem calm59 : True := by
  w_top off
  exact trivial
theorem law_all {w : World} : Stg w 1 P1 := st1 (st2 (st3 (st4 (st5 (st6 (st7 (st8 (st9 (st10 (st11 (st12 (st13 (st14 st15)))))))))))))

theorem calm60 : True := by
  w_top off
  exact trivial
theorem law_go {w : World} {mean : ExcName → Option Value} {mg mb : Str → Option Value} {base h₀ : Heap} {L fa : Addr} {cd : Value} {m : Str → Option Value} {s : Shared} {Q : Flow → Shared → Prop} {E : Value → Shared → Prop}
    (B : Below callerA base [] h₀) (F : Fr h₀ L s.heap m) (X : (heapK w.params).In h₀) (T : Top viewV (looseW viewV []) mean mg mb h₀) (hN : ∃ news, P1 L m news ∧ News h₀ L s.heap news) (hQ : LQ h₀ L s Q) :
    wpAny (model Pg w) (lA L fa cd) (execs (lawStmts.drop 1) (lEnv L fa cd)) Q E s :=
  let ⟨news, hP, N⟩ := hN
  wpAny_mono (law_all mean mg mb base h₀ L fa cd m news s Q B F X N T hP hQ) (fun _ _ h => h) (fun _ _ h => h.elim)
/-- ahead of the classes, from what the entry leaves -/
theorem P1_of {L tp D1 D2 : Nat} {h₀ h : Heap} {m : Str → Option Value} {o1 o2 o3 o4 o5 o6 o7 : Obj} {ta : Tok} {n k : Nat} {oD : Obj} {ws : List Value} {ns : List Int} {v2 v3 v4 v5 v6 v7 : Option Value}
    (N : News h₀ L h [(tp, lstO [.ref D1, .int 0 ta] n), (D1, lstO ws k), (D2, oD), (L + 1 + 1 + 1 + 1 + 1 + 1 + 1, o7), (L + 1 + 1 + 1 + 1 + 1 + 1, o6), (L + 1 + 1 + 1 + 1 + 1, o5), (L + 1 + 1 + 1 + 1, o4), (L + 1 + 1 + 1, o3), (L + 1 + 1, o2), (L + 1, o1)])
    (hw : IntsAre ws ns) (h0 : 0 < ns.length) (h60 : ns.length ≤ 60) (l1 : L + 1 + 1 + 1 + 1 + 1 + 1 + 1 < D1) (l2 : D1 < tp)
    (d1 : o1.data = .cell (some (.ref tp))) (d2 : o2.data = .cell v2) (d3 : o3.data = .cell v3) (d4 : o4.data = .cell v4) (d5 : o5.data = .cell v5) (d6 : o6.data = .cell v6) (d7 : o7.data = .cell v7) :
    ∃ news, P1 L m news ∧ News h₀ L h news :=
  ⟨lawLed L o1 o2 o3 o4 o5 o6 o7 tp D1 0 ta n [(D1, lstO ws k)], ⟨o1, o2, o3, o4, o5, o6, o7, v2, v3, v4, v5, v6, v7, tp, D1, ta, n, _, ws, ns, k, rfl, ⟨List.mem_cons_self, hw, h0, h60, OffC.of_lt (Nat.lt_trans l1 l2), fun p hp => by rw [List.mem_singleton.mp hp]; exact Nat.ne_of_lt l2, fun p hp => by rw [List.mem_singleton.mp hp]; exact OffC.of_lt l1⟩, d1, d2, d3, d4, d5, d6, d7⟩,
    cb_drop N fun p hp => by
      simp only [List.mem_cons] at hp ⊢
      rcases hp with h | h | h | h | h | h | h | h | h <;> simp_all⟩
theorem P1_of2 {L tp D1 D2 D3 : Nat} {h₀ h : Heap} {m : Str → Option Value} {o1 o2 o3 o4 o5 o6 o7 : Obj} {ta : Tok} {n k : Nat} {oD oE : Obj} {ws : List Value} {ns : List Int} {v2 v3 v4 v5 v6 v7 : Option Value}
    (N : News h₀ L h [(tp, lstO [.ref D1, .int 0 ta] n), (D1, lstO ws k), (D2, oD), (D3, oE), (L + 1 + 1 + 1 + 1 + 1 + 1 + 1, o7), (L + 1 + 1 + 1 + 1 + 1 + 1, o6), (L + 1 + 1 + 1 + 1 + 1, o5), (L + 1 + 1 + 1 + 1, o4), (L + 1 + 1 + 1, o3), (L + 1 + 1, o2), (L + 1, o1)])
    (hw : IntsAre ws ns) (h0 : 0 < ns.length) (h60 : ns.length ≤ 60) (l1 : L + 1 + 1 + 1 + 1 + 1 + 1 + 1 < D1) (l2 : D1 < tp)
    (d1 : o1.data = .cell (some (.ref tp))) (d2 : o2.data = .cell v2) (d3 : o3.data = .cell v3) (d4 : o4.data = .cell v4) (d5 : o5.data = .cell v5) (d6 : o6.data = .cell v6) (d7 : o7.data = .cell v7) :
    ∃ news, P1 L m news ∧ News h₀ L h news :=
  ⟨lawLed L o1 o2 o3 o4 o5 o6 o7 tp D1 0 ta n [(D1, lstO ws k)], ⟨o1, o2, o3, o4, o5, o6, o7, v2, v3, v4, v5, v6, v7, tp, D1, ta, n, _, ws, ns, k, rfl, ⟨List.mem_cons_self, hw, h0, h60, OffC.of_lt (Nat.lt_trans l1 l2), fun p hp => by rw [List.mem_singleton.mp hp]; exact Nat.ne_of_lt l2, fun p hp => by rw [List.mem_singleton.mp hp]; exact OffC.of_lt l1⟩, d1, d2, d3, d4, d5, d6, d7⟩,
    cb_drop N fun p hp => by
      simp only [List.mem_cons] at hp ⊢
      rcases hp with h | h | h | h | h | h | h | h | h | h <;> simp_all⟩
/-! the head's tool lays a second form ("twin") of its own constants, with a long equation for each; where the name is taken it goes on without it -/
theorem entry.tw16357382806827142933 : True := trivial
theorem entry.tw9942158192005411410 : True := trivial
theorem entry.tw14648904064782237462 : True := trivial
theorem entry.tw17222652226754300784 : True := trivial
theorem entry.tw4712523743285649281 : True := trivial
theorem entry.tw5262644701541691075 : True := trivial
theorem entry.tw10850219191546242769 : True := trivial
theorem entry.tw8394713635357071770 : True := trivial
theorem entry.tw14869693903916021839 : True := trivial
theorem entry.tw3530884170244782072 : True := trivial
theorem entry.tw444755668738846898 : True := trivial
theorem entry.tw5300640201540473062 : True := trivial
theorem entry.tw647069960283401024 : True := trivial
theorem entry.tw1772750327502089463 : True := trivial
theorem entry.tw8861785057119877554 : True := trivial
theorem entry.tw2196552004829057771 : True := trivial
theorem entry.tw2934775323792502156 : True := trivial
theorem entry.tw4382252646672647109 : True := trivial
theorem entry.tw3507554549828013247 : True := trivial
theorem entry.tw8563313077582136772 : True := trivial
theorem entry.tw5351029431593847699 : True := trivial
theorem entry.tw12391313491941734194 : True := trivial
theorem entry.tw16245446792400504653 : True := trivial
theorem entry.tw3031738057500757702 : True := trivial
theorem entry.tw3750271896111659480 : True := trivial
theorem entry.tw7316099852612824585 : True := trivial
theorem entry.tw1491105879856160814 : True := trivial
theorem entry.tw11070549454657927644 : True := trivial
theorem entry.tw2205865048619263915 : True := trivial
theorem entry.tw12777125813430957091 : True := trivial
theorem entry.tw7925519665021351957 : True := trivial
theorem entry.tw11999110923643607405 : True := trivial
theorem entry.tw6012909793482919969 : True := trivial
theorem entry.tw10371805625615309988 : True := trivial
theorem entry.tw4937673933858630250 : True := trivial
theorem entry.tw6776957791522115699 : True := trivial
theorem entry.tw13614512182502900018 : True := trivial
theorem entry.tw6850893621712242349 : True := trivial
theorem entry.tw5197529403662257699 : True := trivial
theorem entry.tw9809868358104565695 : True := trivial
theorem entry.tw766148585942931141 : True := trivial
theorem entry.tw17612722552693257478 : True := trivial
theorem entry.tw7641960777741614827 : True := trivial
theorem entry.tw2763081411878813607 : True := trivial
theorem entry.tw11667603808388387355 : True := trivial
theorem entry.tw320911283118862517 : True := trivial
theorem entry.tw7921709028120933206 : True := trivial
theorem entry.tw5780962172954860549 : True := trivial
theorem entry.tw8593388860169449332 : True := trivial
theorem entry.tw4345375035933770388 : True := trivial
theorem entry.tw6586211466568768796 : True := trivial
theorem entry.tw12942056047212652475 : True := trivial
theorem entry.tw10893266883400467236 : True := trivial
theorem entry.tw9319161474317058442 : True := trivial
theorem entry.tw9211514688435146957 : True := trivial
theorem entry.tw5522750009849295449 : True := trivial
theorem entry.tw3208266615076342991 : True := trivial
theorem entry.tw12064086790929129052 : True := trivial
theorem entry.tw15950645957786646553 : True := trivial
theorem entry.tw16937635686048394103 : True := trivial
theorem entry.tw11476586131109648659 : True := trivial
theorem entry.tw1016372528476536345 : True := trivial
theorem entry.tw5776397723216405882 : True := trivial
theorem entry.tw16627069878571791712 : True := trivial
theorem entry.tw4830936626488618167 : True := trivial
theorem entry.tw14708662073160082480 : True := trivial
theorem entry.tw15513809798380998443 : True := trivial
theorem entry.tw3919013561346086562 : True := trivial
theorem entry.tw5191141192176824695 : True := trivial
theorem entry.tw6951564983231470094 : True := trivial
theorem entry.tw18230576055144201804 : True := trivial
theorem entry.tw827228643201520429 : True := trivial
theorem entry.tw8732330829906579809 : True := trivial
theorem entry.tw12973178218964611060 : True := trivial
theorem entry.tw12653183158223064650 : True := trivial
theorem entry.tw15938921103529821708 : True := trivial
theorem entry.tw5545187456492869926 : True := trivial
theorem entry.tw2468748367446929867 : True := trivial
theorem entry.tw602957022233623044 : True := trivial
theorem entry.tw14935843178586815750 : True := trivial
theorem entry.tw1838461633271971067 : True := trivial
theorem entry.tw4391590312977548305 : True := trivial
theorem entry.tw8921055269811246804 : True := trivial
theorem entry.tw9486229368547210204 : True := trivial
theorem entry.tw9091593429239882178 : True := trivial
theorem entry.tw15524921455744717637 : True := trivial
theorem entry.tw6776571007111887603 : True := trivial
theorem entry.tw4434970401690326657 : True := trivial
theorem entry.tw15179580327199398074 : True := trivial
theorem entry.tw9546393048163393116 : True := trivial
theorem entry.tw13026967130434980840 : True := trivial
theorem entry.tw6002418231063908988 : True := trivial
theorem entry.tw69661440531901255 : True := trivial
theorem entry.tw12938400235720146104 : True := trivial
theorem entry.tw8764831236109197411 : True := trivial
theorem entry.tw13747030687605117363 : True := trivial
theorem entry.tw655138436775090318 : True := trivial
theorem entry.tw15503806450338990902 : True := trivial
theorem entry.tw14199659173972667229 : True := trivial
theorem entry.tw8283704087543726487 : True := trivial
theorem entry.tw5983377626125962771 : True := trivial
theorem entry.tw9621996332804155265 : True := trivial
theorem entry.tw8485115124772159348 : True := trivial
theorem entry.tw199569572683273973 : True := trivial
theorem entry.tw15204096081922340476 : True := trivial
theorem entry.tw4621610978971450578 : True := trivial
theorem entry.tw12884456471982700292 : True := trivial
theorem entry.tw7948652363117799992 : True := trivial
theorem entry.tw1665339017790520373 : True := trivial
theorem entry.tw14787169094174933452 : True := trivial
theorem entry.tw2989239706571971703 : True := trivial
theorem entry.tw11802259571868618927 : True := trivial
theorem entry.tw8058292054906110252 : True := trivial
theorem entry.tw6265118645226930730 : True := trivial
theorem entry.tw607239164001178483 : True := trivial
theorem entry.tw1331895092039262977 : True := trivial
theorem entry.tw10581535994074051640 : True := trivial
theorem entry.tw5403366101221202171 : True := trivial
theorem entry.tw11446801605552269207 : True := trivial
theorem entry.tw5968734546019971539 : True := trivial
theorem entry.tw13553043008969101920 : True := trivial
theorem entry.tw17829927507403113854 : True := trivial
theorem entry.tw952723174812299495 : True := trivial
theorem entry.tw15361469836528342525 : True := trivial
theorem entry.tw9399197054921665299 : True := trivial
theorem entry.tw142375755643004481 : True := trivial
theorem entry.tw9781061951584216813 : True := trivial
theorem entry.tw1722793283344245339 : True := trivial
theorem entry.tw1505296819307820381 : True := trivial
theorem entry.tw7671273517010919963 : True := trivial
theorem entry.tw10373548442876815851 : True := trivial
theorem entry.tw7249178240440763047 : True := trivial
theorem entry.tw5724864714503943280 : True := trivial
theorem entry.tw12192856756130677124 : True := trivial
theorem entry.tw8586340664856672201 : True := trivial
theorem entry.tw11575934149445642907 : True := trivial
theorem entry.tw1101609573598784572 : True := trivial
theorem entry.tw15064132089105039258 : True := trivial
theorem entry.tw5374477039644706304 : True := trivial
theorem entry.tw16428209966961068769 : True := trivial
theorem entry.tw6640443769089675055 : True := trivial
theorem entry.tw2804832475115389926 : True := trivial
theorem entry.tw14679753563950771085 : True := trivial
theorem entry.tw12343108332002388386 : True := trivial
theorem entry.tw5632373157850378241 : True := trivial
theorem entry.tw18079196340879490458 : True := trivial
theorem entry.tw9149599289863891395 : True := trivial
theorem entry.tw14195937056651054290 : True := trivial
theorem entry.tw7682510479595446584 : True := trivial
theorem entry.tw15300323468101140043 : True := trivial
theorem entry.tw13532401953259298317 : True := trivial
theorem entry.tw7114882016527641170 : True := trivial
theorem entry.tw16857708923688184143 : True := trivial
theorem entry.tw1202227500949381439 : True := trivial
theorem entry.tw10947217955586845481 : True := trivial
theorem entry.tw2122743760077456797 : True := trivial
theorem entry.tw2097529653755612904 : True := trivial
theorem entry.tw6142906538707049237 : True := trivial
theorem entry.tw5482459883896073820 : True := trivial
theorem entry.tw4792956866767640980 : True := trivial
theorem entry.tw7226738352268706923 : True := trivial
theorem entry.tw6793221767161869032 : True := trivial
theorem entry.tw1106309178171208163 : True := trivial
theorem entry.tw8489433433055913096 : True := trivial
theorem entry.tw6746636056700448547 : True := trivial
theorem entry.tw18093458025247409569 : True := trivial
theorem entry.tw2083552918123270120 : True := trivial
theorem entry.tw3467354686950275807 : True := trivial
theorem entry.tw16159178027466875517 : True := trivial
theorem entry.tw5839757468060434703 : True := trivial
theorem entry.tw4990256871006090304 : True := trivial
theorem entry.tw9566210322203163906 : True := trivial
theorem entry.tw434503311691224303 : True := trivial
theorem entry.tw4581116565657512570 : True := trivial
theorem entry.tw7233920940779181892 : True := trivial
theorem entry.tw6111497161220659779 : True := trivial
theorem entry.tw9266018958744802640 : True := trivial
theorem entry.tw10320567647549615140 : True := trivial
theorem entry.tw15169119885074824480 : True := trivial
theorem entry.tw15141037882146429778 : True := trivial
theorem entry.tw5800443112757964504 : True := trivial
theorem entry.tw1435363932654358078 : True := trivial
theorem entry.tw12445876769258292223 : True := trivial
theorem entry.tw4503206073477470518 : True := trivial
theorem entry.tw9709063720089244111 : True := trivial
theorem entry.tw2890380405016416029 : True := trivial
theorem entry.tw2258322343698791001 : True := trivial
theorem entry.tw5884065922493729515 : True := trivial
theorem entry.tw8793060744964455439 : True := trivial
theorem entry.tw4142192488636669262 : True := trivial
theorem entry.tw9519117429261136888 : True := trivial
theorem entry.tw15079473669193709957 : True := trivial
theorem entry.tw8934684260724466082 : True := trivial
theorem entry.tw13350704063329624171 : True := trivial
theorem entry.tw1782246086613040110 : True := trivial
theorem entry.tw1882352913464870234 : True := trivial
theorem entry.tw13432554747122481268 : True := trivial
theorem entry.tw13006889983185576644 : True := trivial
theorem entry.tw11013691802189525237 : True := trivial
theorem entry.tw8476214085267873289 : True := trivial
theorem entry.tw4832506272633519567 : True := trivial
theorem entry.tw6690553113100375134 : True := trivial
theorem entry.tw9263492823371270252 : True := trivial
theorem entry.tw5949577866681516244 : True := trivial
theorem entry.tw1342876183178611370 : True := trivial
theorem entry.tw15074612602993316752 : True := trivial
theorem entry.tw7067900209136602475 : True := trivial
theorem entry.tw9741815432880229999 : True := trivial
theorem entry.tw9500272598278695553 : True := trivial
theorem entry.tw6171430286039391301 : True := trivial
theorem entry.tw907018498591733831 : True := trivial
theorem entry.tw17657088171553801151 : True := trivial
theorem entry.tw8472195759009986976 : True := trivial
theorem entry.tw1483703600205863000 : True := trivial
theorem entry.tw5229271613800714111 : True := trivial
theorem entry.tw13065884002923189115 : True := trivial
theorem entry.tw3594936091215153956 : True := trivial
theorem entry.tw11277701119213011001 : True := trivial
theorem entry.tw11788074752109671403 : True := trivial
theorem entry.tw1550357897419831006 : True := trivial
theorem entry.tw11989959171602952947 : True := trivial
theorem entry.tw3649769119712569205 : True := trivial
theorem entry.tw17613712605773931750 : True := trivial
theorem entry.tw16660674393151564732 : True := trivial
theorem entry.tw10652799301289401541 : True := trivial
theorem entry.tw9577625658756715483 : True := trivial
theorem entry.tw9216304009388079292 : True := trivial
theorem entry.tw5667142295647858541 : True := trivial
theorem entry.tw13849212134358975126 : True := trivial
theorem entry.tw14391864057915497020 : True := trivial
theorem entry.tw14818517227461661053 : True := trivial
theorem entry.tw7921319028294879737 : True := trivial
theorem entry.tw11187959770472391348 : True := trivial
theorem entry.tw5117425860805729920 : True := trivial
theorem entry.tw15646374372911916164 : True := trivial
theorem entry.tw6348189063284435001 : True := trivial
theorem entry.tw10465373065954812316 : True := trivial
theorem entry.tw8472889534427619385 : True := trivial
theorem entry.tw2128930602826773077 : True := trivial
theorem entry.tw10473662203144891164 : True := trivial
theorem entry.tw10151226718804151655 : True := trivial
theorem entry.tw15744578864873034466 : True := trivial
theorem entry.tw15196463969020175578 : True := trivial
theorem entry.tw1804326925233347848 : True := trivial
theorem entry.tw3113104768000134265 : True := trivial
theorem entry.tw9428765986603012691 : True := trivial
theorem entry.tw2177779559933675582 : True := trivial
theorem entry.tw3122790363004149262 : True := trivial
theorem entry.tw14662832351958114203 : True := trivial
theorem entry.tw3214094716067916737 : True := trivial
theorem entry.tw13570283811698233822 : True := trivial
theorem entry.tw1021024379383091753 : True := trivial
theorem entry.tw15219675738870888448 : True := trivial
theorem entry.tw654464084520661793 : True := trivial
theorem entry.tw4536113193292188719 : True := trivial
theorem entry.tw16439710714252052537 : True := trivial
theorem entry.tw6021796400982811229 : True := trivial
theorem entry.tw1280488879347598540 : True := trivial
theorem entry.tw13704093773206608904 : True := trivial
theorem entry.tw9913782525675966504 : True := trivial
set_option Elab.async true in
theorem entry : PySem.Challenge.rw_nu0171_01.Holds := by
  (w_on; o_law; o_head (kHook heapK [2, 3, 15, 17, 18, 20, 21, 29, 31, 32, 34, 35, 36, 39, 40, 41, 42, 43, 44, 45, 55, 56, 58, 59, 61, 62, 63, 64, 65, 66, 67, 70, 72, 73, 75, 76, 77, 79, 80, 82, 83, 84, 86, 87, 89, 90, 91, 93, 94, 96, 97, 98, 99, 100, 102, 103, 105, 106, 107, 109, 110, 112, 113, 114, 116, 117, 119, 120, 121, 123, 124, 126, 127, 128, 130, 131, 133, 134, 135, 137, 138, 140, 141, 142, 144, 145, 147, 148, 149, 151, 152, 154, 155, 156, 158, 159, 161, 162, 163, 165, 166, 168, 169, 177, 179, 180, 182, 183, 184, 186, 187, 189, 190, 191, 193, 194, 196, 197, 198, 199, 200, 201, 202, 212, 213, 215, 216, 218, 219, 220, 223, 224, 225, 227, 228, 230, 231, 232, 235, 236, 237, 239, 240, 242, 243, 244, 245, 246, 247, 248, 258, 260, 261, 263, 264, 265, 267, 268, 270, 271, 272, 274, 275, 277, 278, 279, 281, 282, 284, 285, 286, 289, 290, 291, 292, 293, 294, 295, 305, 307, 308, 310, 311, 312, 314, 315, 317, 318, 319, 321, 322, 324, 325, 326, 328, 329, 331, 332, 333, 334, 335, 336, 337, 347, 348, 350, 351, 353, 354, 355, 357, 358, 360, 361, 362, 364, 365, 367, 368, 369, 371, 372, 374, 375, 376, 379, 380, 381, 382, 383, 384, 385, 388, 390, 391, 393, 394, 395, 397, 398, 400, 401, 402, 405, 406, 407, 410, 411, 412, 414, 415, 417, 418, 419, 422, 423] (fun _ => by kernel_rfl)); (case hw => w_witness2))
  k_with "my stage" => ((with_reducible show wpAny _ _ (execs (Stmt.Assign [Expr.Name (Str.ofString "classes") _] _ _ :: _) _) _ _ _); refine halt ?_)
  k_go0
  all_goals (try k_fold)
  k_steps
  all_goals unfold Halt
  all_goals refine law_go (by assumption) (by assumption) (by assumption) (by assumption) ?_ (fun h' tk' m' news' F' N' => ?_)
  all_goals first
    | exact P1_of (by assumption) (by assumption) (by assumption) (by omega) (by omega) (by omega) (by assumption) (by assumption) (by assumption) (by assumption) (by assumption) (by assumption) (by assumption)
    | exact P1_of2 (by assumption) (.cons _ _ .nil) (by decide) (by decide) (by omega) (by omega) (by assumption) (by assumption) (by assumption) (by assumption) (by assumption) (by assumption) (by assumption)
    | skip
  all_goals dsimp only [qk]
  all_goals k_steps

end Mine
set_option maxRecDepth 100000 in
set_option maxHeartbeats 8000000 in
theorem PySem.Challenge.cw_nu0171_01_holds : PySem.Challenge.rw_nu0171_01.Holds := by
  exact Mine.entry
