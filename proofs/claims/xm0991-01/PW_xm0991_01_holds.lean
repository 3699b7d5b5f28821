import PyProof.Rows.All
import Wide.All
import OpenK.AllK
import Wide.FinOn
import Lean
import PySem.Challenge.RW_xm0991_01
set_option Elab.async false
set_option genSizeOf false
set_option maxRecDepth 100000
set_option maxHeartbeats 8000000
set_option linter.unusedVariables false
set_option linter.unusedSimpArgs false
section
set_option maxRecDepth 100000
namespace Mine
open PySem PySem.W
/-- a def of the text's top, by its place; a def of a class -/
noncomputable def partsOf : Stmt → Arguments × List Stmt × Scope
  | .FunctionDef _ a b _ _ _ sc _ _ _ => (a, b, sc)
  | _ => ({ posonlyargs := [], args := [], vararg := none, kwonlyargs := [], kw_defaults := [], kwarg := none, defaults := [] }, [], default)
noncomputable def inClass : Stmt → List Stmt
  | .ClassDef _ _ _ b _ _ _ _ _ _ _ => b
  | _ => []
noncomputable def fnA (i : Nat) : Arguments × List Stmt × Scope := partsOf (PySem.Challenge.pw_xm0991_01.main.body.getD i (.Pass ⟨0, 0, 0, 0⟩))
noncomputable def fnM (i j : Nat) : Arguments × List Stmt × Scope := partsOf ((inClass (PySem.Challenge.pw_xm0991_01.main.body.getD i (.Pass ⟨0, 0, 0, 0⟩))).getD j (.Pass ⟨0, 0, 0, 0⟩))
abbrev kh (P : Params) (x : Str) : Int := PySem.PyData.keyHash P x
/-- what the walk knows of the heap: the functions and classes that the law comes to -/
noncomputable def KP (P : Params) : Frag := [
  (2, { cls := Value.none, data := Data.dict #[] }),
  (3, { cls := Value.type "dict", data := Data.dict #[{ hash := kh P ("__name__"), key := Value.str (.ofString "__name__") 165, val := Value.str (.ofString "law_xm0991_01") 604 }, { hash := kh P ("__doc__"), key := Value.str (.ofString "__doc__") 166, val := Value.none }, { hash := kh P ("__package__"), key := Value.str (.ofString "__package__") 167, val := Value.none }, { hash := kh P ("__loader__"), key := Value.str (.ofString "__loader__") 168, val := Value.builtin "__main__.__loader__#opaque" }, { hash := kh P ("__spec__"), key := Value.str (.ofString "__spec__") 169, val := Value.none }, { hash := kh P ("__annotations__"), key := Value.str (.ofString "__annotations__") 170, val := Value.ref 6 }, { hash := kh P ("__builtins__"), key := Value.str (.ofString "__builtins__") 171, val := Value.ref 4 }, { hash := kh P ("__file__"), key := Value.str (.ofString "__file__") 173, val := Value.str (.ofString "/claim/cut.py") 172 }, { hash := kh P ("__cached__"), key := Value.str (.ofString "__cached__") 174, val := Value.none }, { hash := kh P ("_wall"), key := Value.str (.ofString "_wall") 193, val := Value.ref 21 }, { hash := kh P ("PressError"), key := Value.str (.ofString "PressError") 223, val := Value.ref 39 }, { hash := kh P ("BadArgument"), key := Value.str (.ofString "BadArgument") 239, val := Value.ref 52 }, { hash := kh P ("NOWHERE"), key := Value.str (.ofString "NOWHERE") 244, val := Value.int (-1) 243 }, { hash := kh P ("PlaceRow"), key := Value.str (.ofString "PlaceRow") 301, val := Value.ref 92 }, { hash := kh P ("Matcher"), key := Value.str (.ofString "Matcher") 429, val := Value.ref 183 }, { hash := kh P ("Finder"), key := Value.str (.ofString "Finder") 485, val := Value.ref 226 }, { hash := kh P ("TreeFinder"), key := Value.str (.ofString "TreeFinder") 555, val := Value.ref 274 }, { hash := kh P ("LayeredFinder"), key := Value.str (.ofString "LayeredFinder") 603, val := Value.ref 307 }, { hash := kh P ("_law_box"), key := Value.str (.ofString "_law_box") 615, val := Value.ref 316 }, { hash := kh P ("_law_take"), key := Value.str (.ofString "_law_take") 624, val := Value.ref 323 }, { hash := kh P ("_law_word"), key := Value.str (.ofString "_law_word") 630, val := Value.ref 328 }, { hash := kh P ("_law_text"), key := Value.str (.ofString "_law_text") 646, val := Value.ref 335 }, { hash := kh P ("_law_runs"), key := Value.str (.ofString "_law_runs") 652, val := Value.ref 340 }, { hash := kh P ("_law_divisor"), key := Value.str (.ofString "_law_divisor") 660, val := Value.ref 347 }, { hash := kh P ("_law_apart"), key := Value.str (.ofString "_law_apart") 674, val := Value.ref 354 }, { hash := kh P ("_law_ways"), key := Value.str (.ofString "_law_ways") 688, val := Value.ref 361 }, { hash := kh P ("_law_about"), key := Value.str (.ofString "_law_about") 699, val := Value.ref 368 }, { hash := kh P ("_law_marks"), key := Value.str (.ofString "_law_marks") 705, val := Value.ref 373 }, { hash := kh P ("_law_marks_right"), key := Value.str (.ofString "_law_marks_right") 711, val := Value.ref 378 }, { hash := kh P ("_law_own"), key := Value.str (.ofString "_law_own") 717, val := Value.ref 383 }, { hash := kh P ("law"), key := Value.str (.ofString "law") 723, val := Value.ref 388 }] 31 }),
  (67, { cls := Value.type "code", data := Data.fields #[Value.str (.ofString "__init__") 257, Value.str (.ofString "PlaceRow.__init__") 258, Value.str (.ofString "/claim/cut.py") 259, Value.int 16 0, Value.int 3 0, Value.int 0 0, Value.int 0 0, Value.int 3 0, Value.ref 62, Value.bool Bool.true, Value.int 181 0, Value.ref 63, Value.none, Value.ref 64, Value.ref 65, Value.ref 66, Value.int 263 0, Value.int 16 0, Value.str (.ofString "/claim/cut.py") 264] }),
  (68, { cls := Value.type "function", data := Data.func { name := .ofString "__init__", qualname := .ofString "PlaceRow.__init__", params := (fnM 6 0).1, body := .stmts (fnM 6 0).2.1, scope := (fnM 6 0).2.2, globals := 3, closure := [], defaults := Value.none, kwdefaults := Value.none, doc := Value.none, pyModule := Value.str (.ofString "threepress.matches") 240, annotations := Option.none, code := Value.ref 67, closureTuple := Value.none, builtins := 0 } }),
  (91, { cls := Value.type "dict", data := Data.dict #[{ hash := kh P ("__module__"), key := Value.str (.ofString "__module__") 252, val := Value.str (.ofString "threepress.matches") 240 }, { hash := kh P ("__firstlineno__"), key := Value.str (.ofString "__firstlineno__") 256, val := Value.int 14 255 }, { hash := kh P ("__init__"), key := Value.str (.ofString "__init__") 265, val := Value.ref 68 }, { hash := kh P ("key"), key := Value.str (.ofString "key") 273, val := Value.ref 75 }, { hash := kh P ("put"), key := Value.str (.ofString "put") 281, val := Value.ref 82 }, { hash := kh P ("newest"), key := Value.str (.ofString "newest") 289, val := Value.ref 89 }, { hash := kh P ("__static_attributes__"), key := Value.str (.ofString "__static_attributes__") 294, val := Value.ref 90 }, { hash := kh P ("__dict__"), key := Value.str (.ofString "__dict__") 296, val := Value.ref 93 }, { hash := kh P ("__weakref__"), key := Value.str (.ofString "__weakref__") 298, val := Value.ref 94 }, { hash := kh P ("__doc__"), key := Value.str (.ofString "__doc__") 299, val := Value.none }] 4 }),
  (92, { cls := Value.type "type", data := Data.cls { name := .ofString "PlaceRow", bases := [Value.type "object"], mro := [Value.ref 92, Value.type "object"], ns := 91, qualname := .ofString "PlaceRow" }, slots := #[Option.none, Option.none, Option.some (Value.str (.ofString "PlaceRow") 245), Option.some (Value.str (.ofString "PlaceRow") 253), Option.some (Value.builtin "object.__new__"), Option.some (Value.bool Bool.true)] }),
  (93, { cls := Value.type "getset_descriptor", data := Data.fields #[Value.str (.ofString "__dict__") 295, Value.ref 92, Value.builtin "function.__dict__", Value.builtin "function.__dict__#set"] }),
  (94, { cls := Value.type "getset_descriptor", data := Data.fields #[Value.str (.ofString "__weakref__") 297, Value.ref 92, Value.builtin "ExceptionGroup.__weakref__", Value.none] }),
  (109, { cls := Value.type "code", data := Data.fields #[Value.str (.ofString "__init__") 314, Value.str (.ofString "Matcher.__init__") 315, Value.str (.ofString "/claim/cut.py") 316, Value.int 34 0, Value.int 5 0, Value.int 0 0, Value.int 0 0, Value.int 3 0, Value.ref 104, Value.bool Bool.true, Value.int 181 0, Value.ref 105, Value.none, Value.ref 106, Value.ref 107, Value.ref 108, Value.int 322 0, Value.int 34 0, Value.str (.ofString "/claim/cut.py") 323] }),
  (110, { cls := Value.type "function", data := Data.func { name := .ofString "__init__", qualname := .ofString "Matcher.__init__", params := (fnM 7 0).1, body := .stmts (fnM 7 0).2.1, scope := (fnM 7 0).2.2, globals := 3, closure := [], defaults := Value.none, kwdefaults := Value.none, doc := Value.none, pyModule := Value.str (.ofString "threepress.matches") 240, annotations := Option.none, code := Value.ref 109, closureTuple := Value.none, builtins := 0 } }),
  (137, { cls := Value.type "code", data := Data.fields #[Value.str (.ofString "limit") 349, Value.str (.ofString "Matcher.limit") 350, Value.str (.ofString "/claim/cut.py") 351, Value.int 56 0, Value.int 3 0, Value.int 0 0, Value.int 0 0, Value.int 3 0, Value.ref 132, Value.bool Bool.true, Value.int 181 0, Value.ref 133, Value.none, Value.ref 134, Value.ref 135, Value.ref 136, Value.int 355 0, Value.int 56 0, Value.str (.ofString "/claim/cut.py") 356] }),
  (138, { cls := Value.type "function", data := Data.func { name := .ofString "limit", qualname := .ofString "Matcher.limit", params := (fnM 7 4).1, body := .stmts (fnM 7 4).2.1, scope := (fnM 7 4).2.2, globals := 3, closure := [], defaults := Value.none, kwdefaults := Value.none, doc := Value.none, pyModule := Value.str (.ofString "threepress.matches") 240, annotations := Option.none, code := Value.ref 137, closureTuple := Value.none, builtins := 0 } }),
  (144, { cls := Value.type "code", data := Data.fields #[Value.str (.ofString "length") 358, Value.str (.ofString "Matcher.length") 359, Value.str (.ofString "/claim/cut.py") 360, Value.int 59 0, Value.int 4 0, Value.int 0 0, Value.int 0 0, Value.int 3 0, Value.ref 139, Value.bool Bool.true, Value.int 181 0, Value.ref 140, Value.none, Value.ref 141, Value.ref 142, Value.ref 143, Value.int 365 0, Value.int 59 0, Value.str (.ofString "/claim/cut.py") 366] }),
  (145, { cls := Value.type "function", data := Data.func { name := .ofString "length", qualname := .ofString "Matcher.length", params := (fnM 7 5).1, body := .stmts (fnM 7 5).2.1, scope := (fnM 7 5).2.2, globals := 3, closure := [], defaults := Value.none, kwdefaults := Value.none, doc := Value.none, pyModule := Value.str (.ofString "threepress.matches") 240, annotations := Option.none, code := Value.ref 144, closureTuple := Value.none, builtins := 0 } }),
  (151, { cls := Value.type "code", data := Data.fields #[Value.str (.ofString "alike") 368, Value.str (.ofString "Matcher.alike") 369, Value.str (.ofString "/claim/cut.py") 370, Value.int 64 0, Value.int 5 0, Value.int 0 0, Value.int 0 0, Value.int 3 0, Value.ref 146, Value.bool Bool.true, Value.int 181 0, Value.ref 147, Value.none, Value.ref 148, Value.ref 149, Value.ref 150, Value.int 377 0, Value.int 64 0, Value.str (.ofString "/claim/cut.py") 378] }),
  (152, { cls := Value.type "function", data := Data.func { name := .ofString "alike", qualname := .ofString "Matcher.alike", params := (fnM 7 6).1, body := .stmts (fnM 7 6).2.1, scope := (fnM 7 6).2.2, globals := 3, closure := [], defaults := Value.none, kwdefaults := Value.none, doc := Value.none, pyModule := Value.str (.ofString "threepress.matches") 240, annotations := Option.none, code := Value.ref 151, closureTuple := Value.none, builtins := 0 } }),
  (165, { cls := Value.type "code", data := Data.fields #[Value.str (.ofString "repeat") 389, Value.str (.ofString "Matcher.repeat") 390, Value.str (.ofString "/claim/cut.py") 391, Value.int 73 0, Value.int 4 0, Value.int 0 0, Value.int 0 0, Value.int 3 0, Value.ref 160, Value.bool Bool.true, Value.int 181 0, Value.ref 161, Value.none, Value.ref 162, Value.ref 163, Value.ref 164, Value.int 396 0, Value.int 73 0, Value.str (.ofString "/claim/cut.py") 397] }),
  (166, { cls := Value.type "function", data := Data.func { name := .ofString "repeat", qualname := .ofString "Matcher.repeat", params := (fnM 7 8).1, body := .stmts (fnM 7 8).2.1, scope := (fnM 7 8).2.2, globals := 3, closure := [], defaults := Value.none, kwdefaults := Value.none, doc := Value.none, pyModule := Value.str (.ofString "threepress.matches") 240, annotations := Option.none, code := Value.ref 165, closureTuple := Value.none, builtins := 0 } }),
  (182, { cls := Value.type "dict", data := Data.dict #[{ hash := kh P ("__module__"), key := Value.str (.ofString "__module__") 309, val := Value.str (.ofString "threepress.matches") 240 }, { hash := kh P ("__firstlineno__"), key := Value.str (.ofString "__firstlineno__") 313, val := Value.int 32 312 }, { hash := kh P ("__init__"), key := Value.str (.ofString "__init__") 324, val := Value.ref 110 }, { hash := kh P ("put"), key := Value.str (.ofString "put") 332, val := Value.ref 117 }, { hash := kh P ("enter"), key := Value.str (.ofString "enter") 340, val := Value.ref 124 }, { hash := kh P ("put_all"), key := Value.str (.ofString "put_all") 348, val := Value.ref 131 }, { hash := kh P ("limit"), key := Value.str (.ofString "limit") 357, val := Value.ref 138 }, { hash := kh P ("length"), key := Value.str (.ofString "length") 367, val := Value.ref 145 }, { hash := kh P ("alike"), key := Value.str (.ofString "alike") 379, val := Value.ref 152 }, { hash := kh P ("is_near"), key := Value.str (.ofString "is_near") 388, val := Value.ref 159 }, { hash := kh P ("repeat"), key := Value.str (.ofString "repeat") 398, val := Value.ref 166 }, { hash := kh P ("every"), key := Value.str (.ofString "every") 407, val := Value.ref 173 }, { hash := kh P ("best"), key := Value.str (.ofString "best") 416, val := Value.ref 180 }, { hash := kh P ("__static_attributes__"), key := Value.str (.ofString "__static_attributes__") 422, val := Value.ref 181 }, { hash := kh P ("__dict__"), key := Value.str (.ofString "__dict__") 424, val := Value.ref 184 }, { hash := kh P ("__weakref__"), key := Value.str (.ofString "__weakref__") 426, val := Value.ref 185 }, { hash := kh P ("__doc__"), key := Value.str (.ofString "__doc__") 427, val := Value.none }] 4 }),
  (183, { cls := Value.type "type", data := Data.cls { name := .ofString "Matcher", bases := [Value.type "object"], mro := [Value.ref 183, Value.type "object"], ns := 182, qualname := .ofString "Matcher", subclasses := [Value.ref 226, Value.ref 274, Value.ref 307] }, slots := #[Option.none, Option.none, Option.some (Value.str (.ofString "Matcher") 302), Option.some (Value.str (.ofString "Matcher") 310), Option.some (Value.builtin "object.__new__"), Option.some (Value.bool Bool.true)] }),
  (184, { cls := Value.type "getset_descriptor", data := Data.fields #[Value.str (.ofString "__dict__") 423, Value.ref 183, Value.builtin "function.__dict__", Value.builtin "function.__dict__#set"] }),
  (185, { cls := Value.type "getset_descriptor", data := Data.fields #[Value.str (.ofString "__weakref__") 425, Value.ref 183, Value.builtin "ExceptionGroup.__weakref__", Value.none] }),
  (195, { cls := Value.type "tuple", data := Data.seq #[Value.int 3 442, Value.int 32768 443, Value.int 32 444] }),
  (201, { cls := Value.type "code", data := Data.fields #[Value.str (.ofString "__init__") 445, Value.str (.ofString "Finder.__init__") 446, Value.str (.ofString "/claim/cut.py") 447, Value.int 85 0, Value.int 5 0, Value.int 0 0, Value.int 0 0, Value.int 3 0, Value.ref 196, Value.bool Bool.true, Value.int 181 0, Value.ref 197, Value.none, Value.ref 198, Value.ref 199, Value.ref 200, Value.int 453 0, Value.int 85 0, Value.str (.ofString "/claim/cut.py") 454] }),
  (202, { cls := Value.type "function", data := Data.func { name := .ofString "__init__", qualname := .ofString "Finder.__init__", params := (fnM 8 0).1, body := .stmts (fnM 8 0).2.1, scope := (fnM 8 0).2.2, globals := 3, closure := [], defaults := Value.ref 195, kwdefaults := Value.none, doc := Value.none, pyModule := Value.str (.ofString "threepress.matches") 240, annotations := Option.none, code := Value.ref 201, closureTuple := Value.none, builtins := 0 } }),
  (225, { cls := Value.type "dict", data := Data.dict #[{ hash := kh P ("__module__"), key := Value.str (.ofString "__module__") 437, val := Value.str (.ofString "threepress.matches") 240 }, { hash := kh P ("__firstlineno__"), key := Value.str (.ofString "__firstlineno__") 441, val := Value.int 83 440 }, { hash := kh P ("__init__"), key := Value.str (.ofString "__init__") 455, val := Value.ref 202 }, { hash := kh P ("enter"), key := Value.str (.ofString "enter") 463, val := Value.ref 209 }, { hash := kh P ("candidates"), key := Value.str (.ofString "candidates") 471, val := Value.ref 216 }, { hash := kh P ("every"), key := Value.str (.ofString "every") 480, val := Value.ref 223 }, { hash := kh P ("__static_attributes__"), key := Value.str (.ofString "__static_attributes__") 482, val := Value.ref 224 }, { hash := kh P ("__doc__"), key := Value.str (.ofString "__doc__") 483, val := Value.none }] 2 }),
  (226, { cls := Value.type "type", data := Data.cls { name := .ofString "Finder", bases := [Value.ref 183], mro := [Value.ref 226, Value.ref 183, Value.type "object"], ns := 225, qualname := .ofString "Finder" }, slots := #[Option.some (Value.ref 188), Option.none, Option.some (Value.str (.ofString "Finder") 430), Option.some (Value.str (.ofString "Finder") 438), Option.some (Value.builtin "object.__new__"), Option.some (Value.bool Bool.true)] }),
  (236, { cls := Value.type "tuple", data := Data.seq #[Value.int 3 498, Value.int 32768 499, Value.int 32 500] }),
  (242, { cls := Value.type "code", data := Data.fields #[Value.str (.ofString "__init__") 501, Value.str (.ofString "TreeFinder.__init__") 502, Value.str (.ofString "/claim/cut.py") 503, Value.int 99 0, Value.int 5 0, Value.int 0 0, Value.int 0 0, Value.int 3 0, Value.ref 237, Value.bool Bool.true, Value.int 181 0, Value.ref 238, Value.none, Value.ref 239, Value.ref 240, Value.ref 241, Value.int 509 0, Value.int 99 0, Value.str (.ofString "/claim/cut.py") 510] }),
  (243, { cls := Value.type "function", data := Data.func { name := .ofString "__init__", qualname := .ofString "TreeFinder.__init__", params := (fnM 9 0).1, body := .stmts (fnM 9 0).2.1, scope := (fnM 9 0).2.2, globals := 3, closure := [], defaults := Value.ref 236, kwdefaults := Value.none, doc := Value.none, pyModule := Value.str (.ofString "threepress.matches") 240, annotations := Option.none, code := Value.ref 242, closureTuple := Value.none, builtins := 0 } }),
  (273, { cls := Value.type "dict", data := Data.dict #[{ hash := kh P ("__module__"), key := Value.str (.ofString "__module__") 493, val := Value.str (.ofString "threepress.matches") 240 }, { hash := kh P ("__firstlineno__"), key := Value.str (.ofString "__firstlineno__") 497, val := Value.int 97 496 }, { hash := kh P ("__init__"), key := Value.str (.ofString "__init__") 511, val := Value.ref 243 }, { hash := kh P ("hang"), key := Value.str (.ofString "hang") 521, val := Value.ref 250 }, { hash := kh P ("enter"), key := Value.str (.ofString "enter") 529, val := Value.ref 257 }, { hash := kh P ("part"), key := Value.str (.ofString "part") 538, val := Value.ref 264 }, { hash := kh P ("every"), key := Value.str (.ofString "every") 547, val := Value.ref 271 }, { hash := kh P ("__static_attributes__"), key := Value.str (.ofString "__static_attributes__") 552, val := Value.ref 272 }, { hash := kh P ("__doc__"), key := Value.str (.ofString "__doc__") 553, val := Value.none }] 2 }),
  (274, { cls := Value.type "type", data := Data.cls { name := .ofString "TreeFinder", bases := [Value.ref 183], mro := [Value.ref 274, Value.ref 183, Value.type "object"], ns := 273, qualname := .ofString "TreeFinder" }, slots := #[Option.some (Value.ref 229), Option.none, Option.some (Value.str (.ofString "TreeFinder") 486), Option.some (Value.str (.ofString "TreeFinder") 494), Option.some (Value.builtin "object.__new__"), Option.some (Value.bool Bool.true)] }),
  (284, { cls := Value.type "tuple", data := Data.seq #[Value.int 2 568, Value.int 3 569] }),
  (285, { cls := Value.type "tuple", data := Data.seq #[Value.int 32768 573, Value.int 32 574] }),
  (289, { cls := Value.type "code", data := Data.fields #[Value.str (.ofString "__init__") 575, Value.str (.ofString "LayeredFinder.__init__") 576, Value.str (.ofString "/claim/cut.py") 577, Value.int 121 0, Value.int 4 0, Value.int 0 0, Value.int 0 0, Value.int 3 0, Value.ref 286, Value.bool Bool.true, Value.int 181 0, Value.ref 287, Value.none, Value.none, Value.none, Value.ref 288, Value.int 578 0, Value.int 121 0, Value.str (.ofString "/claim/cut.py") 579] }),
  (290, { cls := Value.type "function", data := Data.func { name := .ofString "__init__", qualname := .ofString "LayeredFinder.__init__", params := (fnM 10 2).1, body := .stmts (fnM 10 2).2.1, scope := (fnM 10 2).2.2, globals := 3, closure := [], defaults := Value.ref 285, kwdefaults := Value.none, doc := Value.none, pyModule := Value.str (.ofString "threepress.matches") 240, annotations := Option.none, code := Value.ref 289, closureTuple := Value.none, builtins := 0 } }),
  (306, { cls := Value.type "dict", data := Data.dict #[{ hash := kh P ("__module__"), key := Value.str (.ofString "__module__") 563, val := Value.str (.ofString "threepress.matches") 240 }, { hash := kh P ("__firstlineno__"), key := Value.str (.ofString "__firstlineno__") 567, val := Value.int 117 566 }, { hash := kh P ("LAYERS"), key := Value.str (.ofString "LAYERS") 570, val := Value.ref 284 }, { hash := kh P ("TREE"), key := Value.str (.ofString "TREE") 572, val := Value.int 4 571 }, { hash := kh P ("__init__"), key := Value.str (.ofString "__init__") 580, val := Value.ref 290 }, { hash := kh P ("enter"), key := Value.str (.ofString "enter") 588, val := Value.ref 297 }, { hash := kh P ("every"), key := Value.str (.ofString "every") 597, val := Value.ref 304 }, { hash := kh P ("__static_attributes__"), key := Value.str (.ofString "__static_attributes__") 600, val := Value.ref 305 }, { hash := kh P ("__doc__"), key := Value.str (.ofString "__doc__") 601, val := Value.none }] 2 }),
  (307, { cls := Value.type "type", data := Data.cls { name := .ofString "LayeredFinder", bases := [Value.ref 183], mro := [Value.ref 307, Value.ref 183, Value.type "object"], ns := 306, qualname := .ofString "LayeredFinder" }, slots := #[Option.some (Value.ref 277), Option.none, Option.some (Value.str (.ofString "LayeredFinder") 556), Option.some (Value.str (.ofString "LayeredFinder") 564), Option.some (Value.builtin "object.__new__"), Option.some (Value.bool Bool.true)] }),
  (315, { cls := Value.type "code", data := Data.fields #[Value.str (.ofString "_law_box") 606, Value.str (.ofString "_law_box") 607, Value.str (.ofString "/claim/cut.py") 608, Value.int 132 0, Value.int 1 0, Value.int 0 0, Value.int 0 0, Value.int 3 0, Value.ref 310, Value.bool Bool.true, Value.int 181 0, Value.ref 311, Value.none, Value.ref 312, Value.ref 313, Value.ref 314, Value.int 613 0, Value.int 132 0, Value.str (.ofString "/claim/cut.py") 614] }),
  (316, { cls := Value.type "function", data := Data.func { name := .ofString "_law_box", qualname := .ofString "_law_box", params := (fnA 12).1, body := .stmts (fnA 12).2.1, scope := (fnA 12).2.2, globals := 3, closure := [], defaults := Value.none, kwdefaults := Value.none, doc := Value.none, pyModule := Value.str (.ofString "law_xm0991_01") 604, annotations := Option.none, code := Value.ref 315, closureTuple := Value.none, builtins := 0 } }),
  (322, { cls := Value.type "code", data := Data.fields #[Value.str (.ofString "_law_take") 616, Value.str (.ofString "_law_take") 617, Value.str (.ofString "/claim/cut.py") 618, Value.int 140 0, Value.int 2 0, Value.int 0 0, Value.int 0 0, Value.int 3 0, Value.ref 317, Value.bool Bool.true, Value.int 181 0, Value.ref 318, Value.none, Value.ref 319, Value.ref 320, Value.ref 321, Value.int 622 0, Value.int 140 0, Value.str (.ofString "/claim/cut.py") 623] }),
  (323, { cls := Value.type "function", data := Data.func { name := .ofString "_law_take", qualname := .ofString "_law_take", params := (fnA 13).1, body := .stmts (fnA 13).2.1, scope := (fnA 13).2.2, globals := 3, closure := [], defaults := Value.none, kwdefaults := Value.none, doc := Value.none, pyModule := Value.str (.ofString "law_xm0991_01") 604, annotations := Option.none, code := Value.ref 322, closureTuple := Value.none, builtins := 0 } }),
  (327, { cls := Value.type "code", data := Data.fields #[Value.str (.ofString "_law_word") 625, Value.str (.ofString "_law_word") 626, Value.str (.ofString "/claim/cut.py") 627, Value.int 147 0, Value.int 2 0, Value.int 0 0, Value.int 0 0, Value.int 3 0, Value.ref 324, Value.bool Bool.true, Value.int 181 0, Value.ref 325, Value.none, Value.none, Value.none, Value.ref 326, Value.int 628 0, Value.int 147 0, Value.str (.ofString "/claim/cut.py") 629] }),
  (328, { cls := Value.type "function", data := Data.func { name := .ofString "_law_word", qualname := .ofString "_law_word", params := (fnA 14).1, body := .stmts (fnA 14).2.1, scope := (fnA 14).2.2, globals := 3, closure := [], defaults := Value.none, kwdefaults := Value.none, doc := Value.none, pyModule := Value.str (.ofString "law_xm0991_01") 604, annotations := Option.none, code := Value.ref 327, closureTuple := Value.none, builtins := 0 } }),
  (334, { cls := Value.type "code", data := Data.fields #[Value.str (.ofString "_law_text") 631, Value.str (.ofString "_law_text") 632, Value.str (.ofString "/claim/cut.py") 633, Value.int 150 0, Value.int 2 0, Value.int 0 0, Value.int 0 0, Value.int 3 0, Value.ref 329, Value.bool Bool.true, Value.int 181 0, Value.ref 330, Value.none, Value.ref 331, Value.ref 332, Value.ref 333, Value.int 644 0, Value.int 150 0, Value.str (.ofString "/claim/cut.py") 645] }),
  (335, { cls := Value.type "function", data := Data.func { name := .ofString "_law_text", qualname := .ofString "_law_text", params := (fnA 15).1, body := .stmts (fnA 15).2.1, scope := (fnA 15).2.2, globals := 3, closure := [], defaults := Value.none, kwdefaults := Value.none, doc := Value.none, pyModule := Value.str (.ofString "law_xm0991_01") 604, annotations := Option.none, code := Value.ref 334, closureTuple := Value.none, builtins := 0 } }),
  (339, { cls := Value.type "code", data := Data.fields #[Value.str (.ofString "_law_runs") 647, Value.str (.ofString "_law_runs") 648, Value.str (.ofString "/claim/cut.py") 649, Value.int 166 0, Value.int 2 0, Value.int 0 0, Value.int 0 0, Value.int 3 0, Value.ref 336, Value.bool Bool.true, Value.int 181 0, Value.ref 337, Value.none, Value.none, Value.none, Value.ref 338, Value.int 650 0, Value.int 166 0, Value.str (.ofString "/claim/cut.py") 651] }),
  (340, { cls := Value.type "function", data := Data.func { name := .ofString "_law_runs", qualname := .ofString "_law_runs", params := (fnA 16).1, body := .stmts (fnA 16).2.1, scope := (fnA 16).2.2, globals := 3, closure := [], defaults := Value.none, kwdefaults := Value.none, doc := Value.none, pyModule := Value.str (.ofString "law_xm0991_01") 604, annotations := Option.none, code := Value.ref 339, closureTuple := Value.none, builtins := 0 } }),
  (346, { cls := Value.type "code", data := Data.fields #[Value.str (.ofString "_law_divisor") 653, Value.str (.ofString "_law_divisor") 654, Value.str (.ofString "/claim/cut.py") 655, Value.int 178 0, Value.int 2 0, Value.int 0 0, Value.int 0 0, Value.int 3 0, Value.ref 341, Value.bool Bool.true, Value.int 181 0, Value.ref 342, Value.none, Value.ref 343, Value.ref 344, Value.ref 345, Value.int 658 0, Value.int 178 0, Value.str (.ofString "/claim/cut.py") 659] }),
  (347, { cls := Value.type "function", data := Data.func { name := .ofString "_law_divisor", qualname := .ofString "_law_divisor", params := (fnA 17).1, body := .stmts (fnA 17).2.1, scope := (fnA 17).2.2, globals := 3, closure := [], defaults := Value.none, kwdefaults := Value.none, doc := Value.none, pyModule := Value.str (.ofString "law_xm0991_01") 604, annotations := Option.none, code := Value.ref 346, closureTuple := Value.none, builtins := 0 } }),
  (353, { cls := Value.type "code", data := Data.fields #[Value.str (.ofString "_law_apart") 661, Value.str (.ofString "_law_apart") 662, Value.str (.ofString "/claim/cut.py") 663, Value.int 182 0, Value.int 1 0, Value.int 0 0, Value.int 0 0, Value.int 3 0, Value.ref 348, Value.bool Bool.true, Value.int 181 0, Value.ref 349, Value.none, Value.ref 350, Value.ref 351, Value.ref 352, Value.int 672 0, Value.int 182 0, Value.str (.ofString "/claim/cut.py") 673] }),
  (354, { cls := Value.type "function", data := Data.func { name := .ofString "_law_apart", qualname := .ofString "_law_apart", params := (fnA 18).1, body := .stmts (fnA 18).2.1, scope := (fnA 18).2.2, globals := 3, closure := [], defaults := Value.none, kwdefaults := Value.none, doc := Value.none, pyModule := Value.str (.ofString "law_xm0991_01") 604, annotations := Option.none, code := Value.ref 353, closureTuple := Value.none, builtins := 0 } }),
  (360, { cls := Value.type "code", data := Data.fields #[Value.str (.ofString "_law_ways") 675, Value.str (.ofString "_law_ways") 676, Value.str (.ofString "/claim/cut.py") 677, Value.int 189 0, Value.int 3 0, Value.int 0 0, Value.int 0 0, Value.int 3 0, Value.ref 355, Value.bool Bool.true, Value.int 181 0, Value.ref 356, Value.none, Value.ref 357, Value.ref 358, Value.ref 359, Value.int 686 0, Value.int 189 0, Value.str (.ofString "/claim/cut.py") 687] }),
  (361, { cls := Value.type "function", data := Data.func { name := .ofString "_law_ways", qualname := .ofString "_law_ways", params := (fnA 19).1, body := .stmts (fnA 19).2.1, scope := (fnA 19).2.2, globals := 3, closure := [], defaults := Value.none, kwdefaults := Value.none, doc := Value.none, pyModule := Value.str (.ofString "law_xm0991_01") 604, annotations := Option.none, code := Value.ref 360, closureTuple := Value.none, builtins := 0 } }),
  (367, { cls := Value.type "code", data := Data.fields #[Value.str (.ofString "_law_about") 689, Value.str (.ofString "_law_about") 690, Value.str (.ofString "/claim/cut.py") 691, Value.int 197 0, Value.int 4 0, Value.int 0 0, Value.int 0 0, Value.int 3 0, Value.ref 362, Value.bool Bool.true, Value.int 181 0, Value.ref 363, Value.none, Value.ref 364, Value.ref 365, Value.ref 366, Value.int 697 0, Value.int 197 0, Value.str (.ofString "/claim/cut.py") 698] }),
  (368, { cls := Value.type "function", data := Data.func { name := .ofString "_law_about", qualname := .ofString "_law_about", params := (fnA 20).1, body := .stmts (fnA 20).2.1, scope := (fnA 20).2.2, globals := 3, closure := [], defaults := Value.none, kwdefaults := Value.none, doc := Value.none, pyModule := Value.str (.ofString "law_xm0991_01") 604, annotations := Option.none, code := Value.ref 367, closureTuple := Value.none, builtins := 0 } }),
  (372, { cls := Value.type "code", data := Data.fields #[Value.str (.ofString "_law_marks") 700, Value.str (.ofString "_law_marks") 701, Value.str (.ofString "/claim/cut.py") 702, Value.int 202 0, Value.int 2 0, Value.int 0 0, Value.int 0 0, Value.int 3 0, Value.ref 369, Value.bool Bool.true, Value.int 181 0, Value.ref 370, Value.none, Value.none, Value.none, Value.ref 371, Value.int 703 0, Value.int 202 0, Value.str (.ofString "/claim/cut.py") 704] }),
  (373, { cls := Value.type "function", data := Data.func { name := .ofString "_law_marks", qualname := .ofString "_law_marks", params := (fnA 21).1, body := .stmts (fnA 21).2.1, scope := (fnA 21).2.2, globals := 3, closure := [], defaults := Value.none, kwdefaults := Value.none, doc := Value.none, pyModule := Value.str (.ofString "law_xm0991_01") 604, annotations := Option.none, code := Value.ref 372, closureTuple := Value.none, builtins := 0 } }),
  (377, { cls := Value.type "code", data := Data.fields #[Value.str (.ofString "_law_marks_right") 706, Value.str (.ofString "_law_marks_right") 707, Value.str (.ofString "/claim/cut.py") 708, Value.int 210 0, Value.int 2 0, Value.int 0 0, Value.int 0 0, Value.int 3 0, Value.ref 374, Value.bool Bool.true, Value.int 181 0, Value.ref 375, Value.none, Value.none, Value.none, Value.ref 376, Value.int 709 0, Value.int 210 0, Value.str (.ofString "/claim/cut.py") 710] }),
  (378, { cls := Value.type "function", data := Data.func { name := .ofString "_law_marks_right", qualname := .ofString "_law_marks_right", params := (fnA 22).1, body := .stmts (fnA 22).2.1, scope := (fnA 22).2.2, globals := 3, closure := [], defaults := Value.none, kwdefaults := Value.none, doc := Value.none, pyModule := Value.str (.ofString "law_xm0991_01") 604, annotations := Option.none, code := Value.ref 377, closureTuple := Value.none, builtins := 0 } }),
  (382, { cls := Value.type "code", data := Data.fields #[Value.str (.ofString "_law_own") 712, Value.str (.ofString "_law_own") 713, Value.str (.ofString "/claim/cut.py") 714, Value.int 225 0, Value.int 1 0, Value.int 0 0, Value.int 0 0, Value.int 3 0, Value.ref 379, Value.bool Bool.true, Value.int 181 0, Value.ref 380, Value.none, Value.none, Value.none, Value.ref 381, Value.int 715 0, Value.int 225 0, Value.str (.ofString "/claim/cut.py") 716] }),
  (383, { cls := Value.type "function", data := Data.func { name := .ofString "_law_own", qualname := .ofString "_law_own", params := (fnA 23).1, body := .stmts (fnA 23).2.1, scope := (fnA 23).2.2, globals := 3, closure := [], defaults := Value.none, kwdefaults := Value.none, doc := Value.none, pyModule := Value.str (.ofString "law_xm0991_01") 604, annotations := Option.none, code := Value.ref 382, closureTuple := Value.none, builtins := 0 } }),
  (387, { cls := Value.type "code", data := Data.fields #[Value.str (.ofString "law") 718, Value.str (.ofString "law") 719, Value.str (.ofString "/claim/cut.py") 720, Value.int 236 0, Value.int 1 0, Value.int 0 0, Value.int 0 0, Value.int 3 0, Value.ref 384, Value.bool Bool.true, Value.int 181 0, Value.ref 385, Value.none, Value.none, Value.none, Value.ref 386, Value.int 721 0, Value.int 236 0, Value.str (.ofString "/claim/cut.py") 722] }),
  (388, { cls := Value.type "function", data := Data.func { name := .ofString "law", qualname := .ofString "law", params := (fnA 24).1, body := .stmts (fnA 24).2.1, scope := (fnA 24).2.2, globals := 3, closure := [], defaults := Value.none, kwdefaults := Value.none, doc := Value.none, pyModule := Value.str (.ofString "law_xm0991_01") 604, annotations := Option.none, code := Value.ref 387, closureTuple := Value.none, builtins := 0 } })]
end Mine
end
section
set_option maxRecDepth 100000
set_option linter.unusedVariables false
namespace Mine
open PySem PySem.W PySem.Calls PyProof.Rows PySem.Spec
abbrev Store := Addr → Option Obj
noncomputable def Store.Le (φ ψ : Store) : Prop := ∀ b o, φ b = some o → ψ b = some o
theorem Store.Le.refl (φ : Store) : φ.Le φ := fun _ _ e => e
theorem Store.Le.trans {φ ψ χ : Store} (h : φ.Le ψ) (k : ψ.Le χ) : φ.Le χ := fun b o e => k b o (h b o e)
noncomputable def Store.put (φ : Store) (a : Addr) (o : Obj) : Store := fun b => if b = a then some o else φ b
theorem Store.le_put {φ : Store} {a : Addr} {o : Obj} (h : φ a = none) : φ.Le (φ.put a o) := fun b o' e => by
  unfold Store.put
  by_cases q : b = a
  · subst q; rw [h] at e; cases e
  · rw [if_neg q]; exact e
theorem Store.put_self (φ : Store) (a : Addr) (o : Obj) : φ.put a o a = some o := by simp [Store.put]
abbrev tupOf (vs : Array Value) (n : Nat) : Obj := { cls := .type "tuple", data := .seq vs n }
inductive D where
  | none
  | bool (b : Bool)
  | int (i : Int)
  | bytes (ns : List Int)
  | tuple (ds : List D)
  | list (ds : List D)
  | range (a b c : Int)
  | inst (C : Addr) (fs : List (Str × D))
  | box
  | self (C : Addr)
  | any
mutual
inductive Rep (φ : Store) (β : Addr) : Value → D → Prop
  | none : Rep φ β Value.none D.none
  | bool (b : Bool) : Rep φ β (Value.bool b) (D.bool b)
  | int (i : Int) (t : Tok) : Rep φ β (Value.int i t) (D.int i)
  | bytes {b : Array UInt8} {ns : List Int} (t : Tok) : KBw.bInts b = ns → Rep φ β (Value.bytes b t) (D.bytes ns)
  | tuple {a : Addr} {vs : List Value} {n : Nat} {ds : List D} : φ a = some (tupOf vs.toArray n) → Reps φ β vs ds → Rep φ β (Value.ref a) (D.tuple ds)
  | list {a : Addr} {vs : List Value} {n : Nat} {ds : List D} : φ a = some (listOf vs.toArray n) → Reps φ β vs ds → Rep φ β (Value.ref a) (D.list ds)
  | range {r : Addr} {a b c : Int} {t u v : Tok} : φ r = some { cls := .type "range", dict := .none, data := .fields #[.int a t, .int b u, .int c v], slots := #[] } → Rep φ β (Value.ref r) (D.range a b c)
  | inst {a C dx : Addr} {es : List DictEntry} {n : Nat} {fs : List (Str × D)} : φ a = some (instObj C dx) → φ dx = some (dictOf es n) → RepFs φ β es fs → Rep φ β (Value.ref a) (D.inst C fs)
  | box : Rep φ β (Value.ref β) D.box
  | self {a C : Addr} : φ a = some (instObj C β) → Rep φ β (Value.ref a) (D.self C)
  | any (v : Value) : Rep φ β v D.any
inductive Reps (φ : Store) (β : Addr) : List Value → List D → Prop
  | nil : Reps φ β [] []
  | cons {v : Value} {vs : List Value} {d : D} {ds : List D} : Rep φ β v d → Reps φ β vs ds → Reps φ β (v :: vs) (d :: ds)
inductive RepFs (φ : Store) (β : Addr) : List DictEntry → List (Str × D) → Prop
  | nil : RepFs φ β [] []
  | cons {e : DictEntry} {es : List DictEntry} {x : Str} {t : Tok} {d : D} {fs : List (Str × D)} : e.key = .str x t → Rep φ β e.val d → RepFs φ β es fs → RepFs φ β (e :: es) ((x, d) :: fs)
end
theorem Rep.mono {φ ψ : Store} {β : Addr} (hs : φ.Le ψ) {v : Value} {d : D} (h : Rep φ β v d) : Rep ψ β v d :=
  Rep.rec (motive_1 := fun v d _ => Rep ψ β v d) (motive_2 := fun vs ds _ => Reps ψ β vs ds) (motive_3 := fun es fs _ => RepFs ψ β es fs) .none (fun b => .bool b) (fun i t => .int i t) (fun t h => .bytes t h)
    (fun h _ r => .tuple (hs _ _ h) r) (fun h _ r => .list (hs _ _ h) r) (fun h => .range (hs _ _ h)) (fun h k _ r => .inst (hs _ _ h) (hs _ _ k) r) .box (fun h => .self (hs _ _ h)) (fun v => .any v) .nil (fun _ _ h r => .cons h r) .nil (fun k _ _ h r => .cons k h r) h
theorem Reps.mono {φ ψ : Store} {β : Addr} (hs : φ.Le ψ) {vs : List Value} {ds : List D} (h : Reps φ β vs ds) : Reps ψ β vs ds :=
  Reps.rec (motive_1 := fun v d _ => Rep ψ β v d) (motive_2 := fun vs ds _ => Reps ψ β vs ds) (motive_3 := fun es fs _ => RepFs ψ β es fs) .none (fun b => .bool b) (fun i t => .int i t) (fun t h => .bytes t h)
    (fun h _ r => .tuple (hs _ _ h) r) (fun h _ r => .list (hs _ _ h) r) (fun h => .range (hs _ _ h)) (fun h k _ r => .inst (hs _ _ h) (hs _ _ k) r) .box (fun h => .self (hs _ _ h)) (fun v => .any v) .nil (fun _ _ h r => .cons h r) .nil (fun k _ _ h r => .cons k h r) h
theorem RepFs.mono {φ ψ : Store} {β : Addr} (hs : φ.Le ψ) {vs : List DictEntry} {ds : List (Str × D)} (h : RepFs φ β vs ds) : RepFs ψ β vs ds :=
  RepFs.rec (motive_1 := fun v d _ => Rep ψ β v d) (motive_2 := fun vs ds _ => Reps ψ β vs ds) (motive_3 := fun es fs _ => RepFs ψ β es fs) .none (fun b => .bool b) (fun i t => .int i t) (fun t h => .bytes t h)
    (fun h _ r => .tuple (hs _ _ h) r) (fun h _ r => .list (hs _ _ h) r) (fun h => .range (hs _ _ h)) (fun h k _ r => .inst (hs _ _ h) (hs _ _ k) r) .box (fun h => .self (hs _ _ h)) (fun v => .any v) .nil (fun _ _ h r => .cons h r) .nil (fun k _ _ h r => .cons k h r) h
section
variable {φ : Store} {β : Addr} {v : Value} {d : D}
noncomputable def RepInv (φ : Store) (β : Addr) (v : Value) : D → Prop
  | .none => v = .none
  | .bool b => v = .bool b
  | .int i => ∃ t, v = .int i t
  | .bytes ns => ∃ b t, v = .bytes b t ∧ KBw.bInts b = ns
  | .tuple ds => ∃ a vs n, v = .ref a ∧ φ a = some (tupOf (List.toArray vs) n) ∧ Reps φ β vs ds
  | .list ds => ∃ a vs n, v = .ref a ∧ φ a = some (listOf (List.toArray vs) n) ∧ Reps φ β vs ds
  | .range a b c => ∃ r t u w, v = .ref r ∧ φ r = some { cls := .type "range", dict := .none, data := .fields #[.int a t, .int b u, .int c w], slots := #[] }
  | .inst C fs => ∃ a dx es n, v = .ref a ∧ φ a = some (instObj C dx) ∧ φ dx = some (dictOf es n) ∧ RepFs φ β es fs
  | .box => v = .ref β
  | .self C => ∃ a, v = .ref a ∧ φ a = some (instObj C β)
  | .any => True
theorem Rep.inv (h : Rep φ β v d) : RepInv φ β v d := by
  cases h with
  | none => exact rfl
  | bool b => exact rfl
  | int i t => exact ⟨t, rfl⟩
  | bytes t e => exact ⟨_, t, rfl, e⟩
  | tuple h1 h2 => exact ⟨_, _, _, rfl, h1, h2⟩
  | list h1 h2 => exact ⟨_, _, _, rfl, h1, h2⟩
  | range h1 => exact ⟨_, _, _, _, rfl, h1⟩
  | inst h1 h2 h3 => exact ⟨_, _, _, _, rfl, h1, h2, h3⟩
  | box => exact rfl
  | self h1 => exact ⟨_, rfl, h1⟩
  | any => exact trivial
noncomputable def RepsInv (φ : Store) (β : Addr) (vs : List Value) : List D → Prop
  | [] => vs = []
  | d :: ds => ∃ v ws, vs = v :: ws ∧ Rep φ β v d ∧ Reps φ β ws ds
theorem Reps.inv {vs : List Value} {ds : List D} (h : Reps φ β vs ds) : RepsInv φ β vs ds := by
  cases h with
  | nil => exact rfl
  | cons h1 h2 => exact ⟨_, _, rfl, h1, h2⟩
noncomputable def RepFsInv (φ : Store) (β : Addr) (es : List DictEntry) : List (Str × D) → Prop
  | [] => es = []
  | p :: fs => ∃ e es' t, es = e :: es' ∧ e.key = .str p.1 t ∧ Rep φ β e.val p.2 ∧ RepFs φ β es' fs
theorem RepFs.inv {es : List DictEntry} {fs : List (Str × D)} (h : RepFs φ β es fs) : RepFsInv φ β es fs := by
  cases h with
  | nil => exact rfl
  | cons h1 h2 h3 => exact ⟨_, _, _, rfl, h1, h2, h3⟩
theorem RepFs.nil_inv {es : List DictEntry} (h : RepFs φ β es []) : es = [] := h.inv
theorem RepFs.cons_inv {es : List DictEntry} {p : Str × D} {fs : List (Str × D)} (h : RepFs φ β es (p :: fs)) : ∃ e es' t, es = e :: es' ∧ e.key = .str p.1 t ∧ Rep φ β e.val p.2 ∧ RepFs φ β es' fs := h.inv
theorem Rep.int_inv {i : Int} (h : Rep φ β v (.int i)) : ∃ t, v = .int i t := Rep.inv h
theorem Rep.bool_inv {i : Bool} (h : Rep φ β v (.bool i)) : v = .bool i := Rep.inv h
theorem Rep.none_inv (h : Rep φ β v .none) : v = .none := Rep.inv h
theorem Rep.bytes_inv {ns : List Int} (h : Rep φ β v (.bytes ns)) : ∃ b t, v = .bytes b t ∧ KBw.bInts b = ns := Rep.inv h
theorem Rep.list_inv {ds : List D} (h : Rep φ β v (.list ds)) : ∃ a vs n, v = .ref a ∧ φ a = some (listOf (List.toArray vs) n) ∧ Reps φ β vs ds := Rep.inv h
theorem Rep.tuple_inv {ds : List D} (h : Rep φ β v (.tuple ds)) : ∃ a vs n, v = .ref a ∧ φ a = some (tupOf (List.toArray vs) n) ∧ Reps φ β vs ds := Rep.inv h
theorem Rep.range_inv {a b c : Int} (h : Rep φ β v (.range a b c)) : ∃ r t u w, v = .ref r ∧ φ r = some { cls := .type "range", dict := .none, data := .fields #[.int a t, .int b u, .int c w], slots := #[] } := Rep.inv h
theorem Rep.inst_inv {C : Addr} {fs : List (Str × D)} (h : Rep φ β v (.inst C fs)) : ∃ a dx es n, v = .ref a ∧ φ a = some (instObj C dx) ∧ φ dx = some (dictOf es n) ∧ RepFs φ β es fs := Rep.inv h
theorem Rep.box_inv (h : Rep φ β v .box) : v = .ref β := Rep.inv h
theorem Rep.self_inv {C : Addr} (h : Rep φ β v (.self C)) : ∃ a, v = .ref a ∧ φ a = some (instObj C β) := Rep.inv h
theorem Reps.nil_inv {vs : List Value} (h : Reps φ β vs []) : vs = [] := Reps.inv h
theorem Reps.cons_inv {vs : List Value} {ds : List D} (h : Reps φ β vs (d :: ds)) : ∃ v ws, vs = v :: ws ∧ Rep φ β v d ∧ Reps φ β ws ds := Reps.inv h
end
section
variable {φ : Store} {β : Addr} {v : Value} {d : D} {vs ws : List Value} {ds es : List D}
theorem Reps.length (h : Reps φ β vs ds) : vs.length = ds.length := by
  induction ds generalizing vs with
  | nil => rw [Reps.nil_inv h]; rfl
  | cons d ds ih =>
    obtain ⟨v, ws, e, _, r⟩ := Reps.cons_inv h
    rw [e]; exact congrArg (· + 1) (ih r)
theorem Reps.append (h : Reps φ β vs ds) (k : Reps φ β ws es) : Reps φ β (vs ++ ws) (ds ++ es) := by
  induction ds generalizing vs with
  | nil => rw [Reps.nil_inv h]; exact k
  | cons d ds ih =>
    obtain ⟨v, us, e, q, r⟩ := Reps.cons_inv h
    rw [e]; exact .cons q (ih r)
theorem Reps.one (h : Rep φ β v d) : Reps φ β [v] [d] := .cons h .nil
theorem Reps.get (h : Reps φ β vs ds) {k : Nat} {d : D} (hk : ds[k]? = some d) : ∃ v, vs[k]? = some v ∧ Rep φ β v d := by
  induction ds generalizing vs k with
  | nil => cases hk
  | cons d0 ds ih =>
    obtain ⟨v, us, e, q, r⟩ := Reps.cons_inv h
    rw [e]
    cases k with
    | zero => exact ⟨v, rfl, Option.some.inj hk ▸ q⟩
    | succ k => exact ih r hk
theorem Reps.set (h : Reps φ β vs ds) {k : Nat} (hv : Rep φ β v d) : Reps φ β (vs.set k v) (ds.set k d) := by
  induction ds generalizing vs k with
  | nil => rw [Reps.nil_inv h]; exact .nil
  | cons d0 ds ih =>
    obtain ⟨u, us, e, q, r⟩ := Reps.cons_inv h
    rw [e]
    cases k with
    | zero => exact .cons hv r
    | succ k => exact .cons q (ih r)
theorem Reps.drop (h : Reps φ β vs ds) (k : Nat) : Reps φ β (vs.drop k) (ds.drop k) := by
  induction k generalizing vs ds with
  | zero => exact h
  | succ k ih =>
    cases ds with
    | nil => rw [Reps.nil_inv h]; exact .nil
    | cons d ds =>
      obtain ⟨u, us, e, q, r⟩ := Reps.cons_inv h
      rw [e]; exact ih r
theorem Reps.take (h : Reps φ β vs ds) (k : Nat) : Reps φ β (vs.take k) (ds.take k) := by
  induction k generalizing vs ds with
  | zero => exact .nil
  | succ k ih =>
    cases ds with
    | nil => rw [Reps.nil_inv h]; exact .nil
    | cons d ds =>
      obtain ⟨u, us, e, q, r⟩ := Reps.cons_inv h
      rw [e]; exact .cons q (ih r)
theorem Reps.snoc (h : Reps φ β vs ds) (k : Rep φ β v d) : Reps φ β (vs ++ [v]) (ds ++ [d]) := h.append (.one k)
end
/-- what the one shared thing holds: a list of two ints, or an object's fields -/
inductive BX where
  | two (a b : Int)
  | flds (fs : List (Str × D))
abbrev BS := Option BX
noncomputable def BoxIs (h : Heap) (φ : Store) (β : Addr) : BX → Prop
  | .two a b => ∃ u v n, h.get? β = some (listOf #[.int a u, .int b v] n)
  | .flds fs => ∃ es n, h.get? β = some (dictOf es n) ∧ RepFs φ β es fs
theorem BoxIs.obj {h : Heap} {φ : Store} {β : Addr} {p : BX} (x : BoxIs h φ β p) : ∃ o, h.get? β = some o := by
  cases p with
  | two a b => obtain ⟨u, v, n, e⟩ := x; exact ⟨_, e⟩
  | flds fs => obtain ⟨es, n, e, _⟩ := x; exact ⟨_, e⟩
theorem BoxIs.keep {h h' : Heap} {φ φ' : Store} {β : Addr} {p : BX} (x : BoxIs h φ β p) (hk : ∀ o, h.get? β = some o → h'.get? β = some o) (le : φ.Le φ') : BoxIs h' φ' β p := by
  cases p with
  | two a b => obtain ⟨u, v, n, e⟩ := x; exact ⟨u, v, n, hk _ e⟩
  | flds fs => obtain ⟨es, n, e, r⟩ := x; exact ⟨es, n, hk _ e, r.mono le⟩
structure Cx where
  prog : Program
  w : World
  S0 : Shared
  H : Heap
  mg : Str → Option Value
  mb : Str → Option Value
  β : Addr
abbrev Cx.M (C : Cx) : Model := model C.prog C.w
noncomputable abbrev Cx.K (C : Cx) : Frag := KP C.w.params
structure Cx.Ok (C : Cx) : Prop where
  g : C.H.Ns mainGlobals C.mg
  b : C.H.Ns builtinsNs C.mb
  builtins : ∀ x : Str, x ≠ "__name__" → C.mb x = bootBuiltins x
  nolimit : C.H.NoLimit
  kin : C.K.In C.H
structure GSt (C : Cx) (Ψ φ : Store) (bs : BS) (s : Shared) : Prop where
  base : ∀ b o, C.H.get? b = some o → φ b = some o
  fro : ∀ b o, φ b = some o → s.heap.get? b = some o
  pro : ∀ b o, Ψ b = some o → s.heap.get? b = some o
  sep : ∀ b o, φ b = some o → Ψ b = none
  bex : ∃ o, s.heap.get? C.β = some o
  box : ∀ p, bs = some p → BoxIs s.heap φ C.β p ∧ φ C.β = none ∧ Ψ C.β = none
  same : ∃ h tk, s = { C.S0 with heap := h, toks := tk }
theorem GSt.keepH {C : Cx} {Ψ φ : Store} {bs : BS} {s : Shared} (G : GSt C Ψ φ bs s) : ∀ b o, C.H.get? b = some o → s.heap.get? b = some o := fun b o e => G.fro b o (G.base b o e)
theorem get?_size {h : Heap} : h.get? h.objs.size = none := by
  cases e : h.get? h.objs.size with
  | none => rfl
  | some o => exact absurd (Heap.lt_size e) (Nat.lt_irrefl _)
theorem get?_ge {h : Heap} {a : Addr} (ha : h.objs.size ≤ a) : h.get? a = none := by
  cases e : h.get? a with
  | none => rfl
  | some o => exact absurd (Heap.lt_size e) (Nat.not_lt.mpr ha)
theorem GSt.new {C : Cx} {Ψ φ : Store} {bs : BS} {s : Shared} (G : GSt C Ψ φ bs s) {a : Addr} (ha : s.heap.get? a = none) : φ a = none ∧ Ψ a = none := by
  constructor
  · cases e : φ a with
    | none => rfl
    | some o => rw [G.fro _ _ e] at ha; cases ha
  · cases e : Ψ a with
    | none => rfl
    | some o => rw [G.pro _ _ e] at ha; cases ha
theorem same_step {S0 : Shared} {s : Shared} {h : Heap} {tk : Nat} (x : ∃ h tk, s = { S0 with heap := h, toks := tk }) : ∃ h' tk', ({ s with heap := h, toks := tk } : Shared) = { S0 with heap := h', toks := tk' } := by
  obtain ⟨h0, t0, rfl⟩ := x
  exact ⟨h, tk, rfl⟩
theorem GSt.grow {C : Cx} {Ψ φ : Store} {bs : BS} {s : Shared} (G : GSt C Ψ φ bs s) {h : Heap} {tk : Nat} (hk : ∀ b o, s.heap.get? b = some o → h.get? b = some o) : GSt C Ψ φ bs { s with heap := h, toks := tk } where
  base := G.base
  fro := fun b o e => hk b o (G.fro b o e)
  pro := fun b o e => hk b o (G.pro b o e)
  sep := G.sep
  bex := let ⟨o, e⟩ := G.bex; ⟨o, hk _ _ e⟩
  box := fun p e => by
    obtain ⟨h1, h2⟩ := G.box p e
    exact ⟨h1.keep (fun o e => hk _ _ e) (Store.Le.refl φ), h2⟩
  same := same_step G.same
/-- one object of the call's own is changed -/
theorem GSt.upd {C : Cx} {Ψ φ : Store} {bs : BS} {s : Shared} (G : GSt C Ψ φ bs s) {h : Heap} {tk : Nat} {a : Addr} (hk : ∀ b o, b ≠ a → s.heap.get? b = some o → h.get? b = some o)
    (hφ : φ a = none) (hΨ : Ψ a = none) (hb : a ≠ C.β) : GSt C Ψ φ bs { s with heap := h, toks := tk } where
  base := G.base
  fro := fun b o e => hk b o (fun q => by rw [q, hφ] at e; cases e) (G.fro b o e)
  pro := fun b o e => hk b o (fun q => by rw [q, hΨ] at e; cases e) (G.pro b o e)
  sep := G.sep
  bex := let ⟨o, e⟩ := G.bex; ⟨o, hk _ _ (Ne.symm hb) e⟩
  box := fun p e => by
    obtain ⟨h1, h2⟩ := G.box p e
    exact ⟨h1.keep (fun o e => hk _ _ (Ne.symm hb) e) (Store.Le.refl φ), h2⟩
  same := same_step G.same
theorem GSt.freeze {C : Cx} {Ψ φ : Store} {bs : BS} {s : Shared} (G : GSt C Ψ φ bs s) {a : Addr} {o : Obj} (ha : s.heap.get? a = some o) (hφ : φ a = none) (hΨ : Ψ a = none) (hb : a ≠ C.β) : GSt C Ψ (φ.put a o) bs s where
  base := fun b o' e => Store.le_put hφ b o' (G.base b o' e)
  fro := fun b o' e => by
    unfold Store.put at e
    by_cases q : b = a
    · subst q; rw [if_pos rfl] at e; cases e; exact ha
    · rw [if_neg q] at e; exact G.fro b o' e
  pro := G.pro
  sep := fun b o' e => by
    unfold Store.put at e
    by_cases q : b = a
    · subst q; exact hΨ
    · rw [if_neg q] at e; exact G.sep b o' e
  bex := G.bex
  box := fun p e => by
    obtain ⟨h1, h2, h3⟩ := G.box p e
    refine ⟨h1.keep (fun o e => e) (Store.le_put hφ), ?_, h3⟩
    unfold Store.put
    rw [if_neg (Ne.symm hb)]; exact h2
  same := G.same
inductive Slot where
  | val (d : D)
  | mu (ds : List D)
abbrev Vars := List (Str × Slot)
structure Fm where
  sc : Scope
  ow : List Str
  n : Nat
structure FSt (C : Cx) (F : Fm) (env : Env) (Ψ φ : Store) (ρ : Str → Option Value) (vars : Vars) (s : Shared) : Prop where
  sc : env.scope = F.sc
  kind : F.sc.kind = .function
  glob : env.globals = mainGlobals
  blt : env.builtins = builtinsNs
  ns : ∃ m, s.heap.Ns env.locals m ∧ ∀ x v, ρ x = some v → F.sc.names.lookup x = some .local → m x = some v
  loc : φ env.locals = none ∧ Ψ env.locals = none ∧ env.locals ≠ C.β
  cell : ∀ x v, ρ x = some v → F.sc.names.lookup x = some .cell ∨ F.sc.names.lookup x = some .free → ∃ c, env.cells.lookup x = some c ∧ s.heap.IsCell c (some v)
  own : ∀ x ∈ F.ow, ∃ c v, env.cells.lookup x = some c ∧ s.heap.IsCell c v ∧ φ c = none ∧ Ψ c = none ∧ c ≠ C.β ∧ ∀ y, y ≠ x → env.cells.lookup y ≠ some c
  fr : ∀ x c, env.cells.lookup x = some c → x ∉ F.ow → ∃ o, Ψ c = some o
  val : ∀ x d, vars.lookup x = some (.val d) → ∃ v, ρ x = some v ∧ Rep φ C.β v d
  mu : ∀ x ds, vars.lookup x = some (.mu ds) → ∃ a vs n, ρ x = some (.ref a) ∧ s.heap.get? a = some (listOf vs n) ∧ Reps φ C.β vs.toList ds ∧ φ a = none ∧ Ψ a = none ∧ a ≠ C.β
  dis : ∀ x y ds es, vars.lookup x = some (.mu ds) → vars.lookup y = some (.mu es) → x ≠ y → ρ x ≠ ρ y
structure St (C : Cx) (F : Fm) (env : Env) (Ψ φ : Store) (ρ : Str → Option Value) (vars : Vars) (bs : BS) (s : Shared) : Prop where
  G : GSt C Ψ φ bs s
  F : FSt C F env Ψ φ ρ vars s
theorem FSt.grow {C : Cx} {F : Fm} {env : Env} {Ψ φ φ' : Store} {ρ : Str → Option Value} {vars : Vars} {s : Shared} (X : FSt C F env Ψ φ ρ vars s) {h : Heap} {tk : Nat}
    (hk : ∀ b o, s.heap.get? b = some o → h.get? b = some o) (hφ : φ.Le φ') (hnew : ∀ b, φ b = none → φ' b ≠ none → s.heap.get? b = none) : FSt C F env Ψ φ' ρ vars { s with heap := h, toks := tk } := by
  have new : ∀ b o, s.heap.get? b = some o → φ b = none → φ' b = none := fun b o e q => by
    cases e' : φ' b with
    | none => rfl
    | some o' => rw [hnew b q (by rw [e']; exact fun z => by cases z)] at e; cases e
  refine ⟨X.sc, X.kind, X.glob, X.blt, ?_, ?_, ?_, ?_, X.fr, ?_, ?_, X.dis⟩
  · obtain ⟨m, h1, h2⟩ := X.ns
    exact ⟨m, h1.keeps hk, h2⟩
  · obtain ⟨m, ⟨o, _, _, h1, _⟩, _⟩ := X.ns
    exact ⟨new _ _ h1 X.loc.1, X.loc.2⟩
  · intro x v e k
    obtain ⟨c, h1, h2⟩ := X.cell x v e k
    exact ⟨c, h1, h2.keeps hk⟩
  · intro x hx
    obtain ⟨c, v, h1, h2, h3, h4, h5⟩ := X.own x hx
    obtain ⟨o, ho, _⟩ := id h2
    exact ⟨c, v, h1, h2.keeps hk, new _ _ ho h3, h4, h5⟩
  · intro x d e
    obtain ⟨v, h1, h2⟩ := X.val x d e
    exact ⟨v, h1, h2.mono hφ⟩
  · intro x ds e
    obtain ⟨a, vs, n, h1, h2, h3, h4, h5, h6⟩ := X.mu x ds e
    exact ⟨a, vs, n, h1, hk _ _ h2, h3.mono hφ, new _ _ h2 h4, h5, h6⟩
inductive R where
  | val (d : D)
  | bor (x : Str) (ds : List D)
  | own (ds : List D)
/-- a new list, of nobody's yet -/
noncomputable def IsOwn (C : Cx) (Ψ φ : Store) (s : Shared) (v : Value) (ds : List D) (a : Addr) : Prop := ∃ vs n, v = .ref a ∧ s.heap.get? a = some (listOf vs n) ∧ Reps φ C.β vs.toList ds ∧ φ a = none ∧ Ψ a = none ∧ a ≠ C.β
noncomputable def RV (C : Cx) (env : Env) (Ψ φ : Store) (ρ : Str → Option Value) (vars : Vars) (s : Shared) (v : Value) : R → Prop
  | .val d => Rep φ C.β v d
  | .bor x ds => ρ x = some v ∧ vars.lookup x = some (.mu ds)
  | .own ds => ∃ a, IsOwn C Ψ φ s v ds a ∧ (∀ x es, vars.lookup x = some (.mu es) → ρ x ≠ some v)
noncomputable def AOk (n : Nat) (A : Around) : Prop := A.handled = none ∧ A.depth + 3 * n + 5 < recursionLimit ∧ A.units + 40 * n + 150 < cLine
theorem AOk.deeper {n : Nat} {A : Around} {env : Env} (h : AOk (n + 1) A) : AOk n (A.deeper env) := ⟨h.1, by have := h.2.1; show A.depth + 1 + _ + _ < _; lia, by have := h.2.2; show A.units + 3 + _ + _ < _; lia⟩
theorem AOk.le {n k : Nat} {A : Around} (h : AOk n A) (hk : k ≤ n) : AOk k A := ⟨h.1, by have := h.2.1; lia, by have := h.2.2; lia⟩
theorem AOk.room {n : Nat} {A : Around} (h : AOk n A) : A.depth < recursionLimit := by have := h.2.1; lia
theorem AOk.units {n : Nat} {A : Around} (h : AOk n A) : A.units + 100 < cLine := by have := h.2.2; lia
/-- how an expression ends -/
inductive EvR (C : Cx) (F : Fm) (env : Env) (Ψ φ : Store) (ρ : Str → Option Value) (vars : Vars) (Q : BS → R → Prop) (v : Value) (s' : Shared) : Prop
  | intro (φ' : Store) (bs' : BS) (r : R) (le : φ.Le φ') (X : St C F env Ψ φ' ρ vars bs' s') (h : RV C env Ψ φ' ρ vars s' v r) (q : Q bs' r)
theorem EvR.le {C : Cx} {F : Fm} {env : Env} {Ψ φ φ1 : Store} {ρ : Str → Option Value} {vars : Vars} {Q : BS → R → Prop} {v : Value} {s' : Shared} (le : φ.Le φ1) : EvR C F env Ψ φ1 ρ vars Q v s' → EvR C F env Ψ φ ρ vars Q v s'
  | ⟨φ', b, r, l, X, h, q⟩ => ⟨φ', b, r, le.trans l, X, h, q⟩
theorem EvR.mono {C : Cx} {F : Fm} {env : Env} {Ψ φ : Store} {ρ : Str → Option Value} {vars : Vars} {Q Q' : BS → R → Prop} {v : Value} {s' : Shared} (hq : ∀ b r, Q b r → Q' b r) : EvR C F env Ψ φ ρ vars Q v s' → EvR C F env Ψ φ ρ vars Q' v s'
  | ⟨φ', b, r, l, X, h, q⟩ => ⟨φ', b, r, l, X, h, hq _ _ q⟩
/-- how a test ends -/
inductive TsR (C : Cx) (F : Fm) (env : Env) (Ψ φ : Store) (ρ : Str → Option Value) (vars : Vars) (Q : BS → Bool → Prop) (b : Bool) (s' : Shared) : Prop
  | intro (φ' : Store) (bs' : BS) (le : φ.Le φ') (X : St C F env Ψ φ' ρ vars bs' s') (q : Q bs' b)
theorem TsR.le {C : Cx} {F : Fm} {env : Env} {Ψ φ φ1 : Store} {ρ : Str → Option Value} {vars : Vars} {Q : BS → Bool → Prop} {b : Bool} {s' : Shared} (le : φ.Le φ1) : TsR C F env Ψ φ1 ρ vars Q b s' → TsR C F env Ψ φ ρ vars Q b s'
  | ⟨φ', b, l, X, q⟩ => ⟨φ', b, le.trans l, X, q⟩
structure Ev (C : Cx) (F : Fm) (vars : Vars) (bs : BS) (e : Expr) (Q : BS → R → Prop) : Prop where
  run : ∀ A env Ψ φ ρ s, AOk F.n A → St C F env Ψ φ ρ vars bs s → wpAny C.M A (eval e env) (EvR C F env Ψ φ ρ vars Q) (fun _ _ => False) s
structure Ts (C : Cx) (F : Fm) (vars : Vars) (bs : BS) (e : Expr) (Q : BS → Bool → Prop) : Prop where
  run : ∀ A env Ψ φ ρ s, AOk F.n A → St C F env Ψ φ ρ vars bs s → wpAny C.M A (isTrue e env (eval e env)) (TsR C F env Ψ φ ρ vars Q) (fun _ _ => False) s
inductive Fl where
  | next | brk | cont
  | ret (r : R)
noncomputable def FV (C : Cx) (env : Env) (Ψ φ : Store) (ρ : Str → Option Value) (vars : Vars) (s : Shared) : Flow → Fl → Prop
  | .next, .next => True
  | .brk, .brk => True
  | .cont, .cont => True
  | .ret v, .ret r => RV C env Ψ φ ρ vars s v r
  | _, _ => False
/-- how statements end -/
inductive ExR (C : Cx) (F : Fm) (env : Env) (Ψ φ : Store) (Q : Vars → BS → Fl → Prop) (f : Flow) (s' : Shared) : Prop
  | intro (φ' : Store) (ρ' : Str → Option Value) (vars' : Vars) (bs' : BS) (fl : Fl) (le : φ.Le φ') (X : St C F env Ψ φ' ρ' vars' bs' s') (h : FV C env Ψ φ' ρ' vars' s' f fl) (q : Q vars' bs' fl)
theorem ExR.le {C : Cx} {F : Fm} {env : Env} {Ψ φ φ1 : Store} {Q : Vars → BS → Fl → Prop} {f : Flow} {s' : Shared} (le : φ.Le φ1) : ExR C F env Ψ φ1 Q f s' → ExR C F env Ψ φ Q f s'
  | ⟨φ', ρ, v, b, fl, l, X, h, q⟩ => ⟨φ', ρ, v, b, fl, le.trans l, X, h, q⟩
structure Ex (C : Cx) (F : Fm) (vars : Vars) (bs : BS) (ss : List Stmt) (Q : Vars → BS → Fl → Prop) : Prop where
  run : ∀ A env Ψ φ ρ s, AOk F.n A → St C F env Ψ φ ρ vars bs s → wpAny C.M A (execs ss env) (ExR C F env Ψ φ Q) (fun _ _ => False) s
structure Ex1 (C : Cx) (F : Fm) (vars : Vars) (bs : BS) (st : Stmt) (Q : Vars → BS → Fl → Prop) : Prop where
  run : ∀ A env Ψ φ ρ s, AOk F.n A → St C F env Ψ φ ρ vars bs s → wpAny C.M A (exec st env) (ExR C F env Ψ φ Q) (fun _ _ => False) s
/-- a result handed out of a frame -/
noncomputable def OV (C : Cx) (Ψ φ : Store) (s : Shared) (v : Value) : R → Prop
  | .val d => Rep φ C.β v d
  | .own ds => ∃ a, IsOwn C Ψ φ s v ds a
  | .bor _ _ => False
/-- a call's end: it hands back a value -/
noncomputable def RetR (P : Value → Shared → Prop) : Result → Shared → Prop := fun r s' => match r with
  | .ok (.ret v) => P v s'
  | .ok _ => False
  | .error _ => False
/-- how a call ends -/
inductive FnR (C : Cx) (Ψ φ : Store) (Q : BS → R → Prop) (v : Value) (s' : Shared) : Prop
  | intro (φ' : Store) (bs' : BS) (r : R) (le : φ.Le φ') (G : GSt C Ψ φ' bs' s') (h : OV C Ψ φ' s' v r) (q : Q bs' r)
structure Fn (C : Cx) (n : Nat) (f : Value) (ds : List D) (bs : BS) (Q : BS → R → Prop) : Prop where
  run : ∀ A Ψ φ s vs, AOk n A → GSt C Ψ φ bs s → Reps φ C.β vs ds → codeAny C.M A (.call f ⟨vs, []⟩) (RetR (FnR C Ψ φ Q)) s
theorem wpAny_ofRet {M : Model} {A : Around} {f : Value} {vs : List Value} {P : Value → Shared → Prop} {s : Shared} (h : codeAny M A (.call f ⟨vs, []⟩) (RetR P) s) : wpAny M A (call f vs []) P (fun _ _ => False) s :=
  wpAny_call (codeAny_mono h fun r s x => by rcases r with e | (v | _ | _ | _) <;> first | exact x.elim | exact x)
theorem St.grow {C : Cx} {F : Fm} {env : Env} {Ψ φ : Store} {ρ : Str → Option Value} {vars : Vars} {bs : BS} {s : Shared} (X : St C F env Ψ φ ρ vars bs s) {h : Heap} {tk : Nat}
    (hk : ∀ b o, s.heap.get? b = some o → h.get? b = some o) : St C F env Ψ φ ρ vars bs { s with heap := h, toks := tk } :=
  ⟨X.G.grow hk, X.F.grow hk (Store.Le.refl φ) fun b e q => absurd e q⟩
theorem St.tick {C : Cx} {F : Fm} {env : Env} {Ψ φ : Store} {ρ : Str → Option Value} {vars : Vars} {bs : BS} {s : Shared} (X : St C F env Ψ φ ρ vars bs s) {tk : Nat} : St C F env Ψ φ ρ vars bs { s with toks := tk } := X.grow (h := s.heap) fun _ _ e => e
/-- an object that is nobody's is frozen -/
theorem St.freeze {C : Cx} {F : Fm} {env : Env} {Ψ φ : Store} {ρ : Str → Option Value} {vars : Vars} {bs : BS} {s : Shared} (X : St C F env Ψ φ ρ vars bs s) {a : Addr} {o : Obj} (ha : s.heap.get? a = some o) (hφ : φ a = none) (hΨ : Ψ a = none) (hb : a ≠ C.β)
    (hl : a ≠ env.locals) (hc : ∀ x ∈ F.ow, env.cells.lookup x ≠ some a) (hm : ∀ x es, vars.lookup x = some (.mu es) → ρ x ≠ some (.ref a)) : St C F env Ψ (φ.put a o) ρ vars bs s := by
  have le : φ.Le (φ.put a o) := Store.le_put hφ
  have ne : ∀ b, b ≠ a → φ.put a o b = φ b := fun b q => by unfold Store.put; rw [if_neg q]
  refine ⟨X.G.freeze ha hφ hΨ hb, ⟨X.F.sc, X.F.kind, X.F.glob, X.F.blt, X.F.ns, ?_, X.F.cell, ?_, X.F.fr, ?_, ?_, X.F.dis⟩⟩
  · rw [ne _ (Ne.symm hl)]; exact X.F.loc
  · intro x hx
    obtain ⟨c, v, h1, h2, h3, h4, h5⟩ := X.F.own x hx
    exact ⟨c, v, h1, h2, by rw [ne _ (fun q => hc x hx (q ▸ h1))]; exact h3, h4, h5⟩
  · intro x d e
    obtain ⟨v, h1, h2⟩ := X.F.val x d e
    exact ⟨v, h1, h2.mono le⟩
  · intro x ds e
    obtain ⟨b, vs, n, h1, h2, h3, h4, h5, h6⟩ := X.F.mu x ds e
    exact ⟨b, vs, n, h1, h2, h3.mono le, by rw [ne _ (fun q => hm x ds e (q ▸ h1))]; exact h4, h5, h6⟩
theorem St.ne_loc {C : Cx} {F : Fm} {env : Env} {Ψ φ : Store} {ρ : Str → Option Value} {vars : Vars} {bs : BS} {s : Shared} (X : St C F env Ψ φ ρ vars bs s) {a : Addr} {vs : Array Value} {T : String} {n : Nat} (ha : s.heap.get? a = some { cls := .type T, data := .seq vs n }) : a ≠ env.locals := by
  rintro rfl
  obtain ⟨m, ⟨o, es, ep, h1, h2, _⟩, _⟩ := X.F.ns
  rw [ha] at h1; cases h1; cases h2
theorem St.ne_cell {C : Cx} {F : Fm} {env : Env} {Ψ φ : Store} {ρ : Str → Option Value} {vars : Vars} {bs : BS} {s : Shared} (X : St C F env Ψ φ ρ vars bs s) {a : Addr} {vs : Array Value} {T : String} {n : Nat} (ha : s.heap.get? a = some { cls := .type T, data := .seq vs n }) :
    ∀ x ∈ F.ow, env.cells.lookup x ≠ some a := by
  intro x hx e
  obtain ⟨c, v, h1, ⟨o, h2, h3⟩, _⟩ := X.F.own x hx
  rw [h1] at e; cases e
  rw [ha] at h2; cases h2; cases h3
theorem St.bne {C : Cx} {F : Fm} {env : Env} {Ψ φ : Store} {ρ : Str → Option Value} {vars : Vars} {bs : BS} {s : Shared} (X : St C F env Ψ φ ρ vars bs s) {a : Addr} (ha : s.heap.get? a = none) : a ≠ C.β := by
  rintro rfl
  obtain ⟨o, e⟩ := X.G.bex
  rw [ha] at e; cases e
/-- a new seq object, owned -/
theorem St.newOwn {C : Cx} {F : Fm} {env : Env} {Ψ φ : Store} {ρ : Str → Option Value} {vars : Vars} {bs : BS} {s : Shared} (X : St C F env Ψ φ ρ vars bs s) {a : Addr} {h : Heap} {tk : Nat} {vs : Array Value} {n : Nat} {ds : List D}
    (hk : ∀ b o, s.heap.get? b = some o → h.get? b = some o) (hn : s.heap.get? a = none) (ha : h.get? a = some (listOf vs n)) (hr : Reps φ C.β vs.toList ds) :
    St C F env Ψ φ ρ vars bs { s with heap := h, toks := tk } ∧ RV C env Ψ φ ρ vars { s with heap := h, toks := tk } (.ref a) (.own ds) := by
  refine ⟨X.grow hk, a, ⟨vs, n, rfl, ha, hr, (X.G.new hn).1, (X.G.new hn).2, X.bne hn⟩, ?_⟩
  intro x es e q
  obtain ⟨b, vs', n', h1, h2, _⟩ := X.F.mu x es e
  rw [h1] at q; cases q
  rw [hn] at h2; cases h2
/-- a new seq object, frozen at once -/
theorem St.newTup {C : Cx} {F : Fm} {env : Env} {Ψ φ : Store} {ρ : Str → Option Value} {vars : Vars} {bs : BS} {s : Shared} (X : St C F env Ψ φ ρ vars bs s) {a : Addr} {h : Heap} {tk : Nat} {vs : List Value} {n : Nat} {ds : List D}
    (hk : ∀ b o, s.heap.get? b = some o → h.get? b = some o) (hn : s.heap.get? a = none) (ha : h.get? a = some (tupOf vs.toArray n)) (hr : Reps φ C.β vs ds) :
    ∃ φ', φ.Le φ' ∧ St C F env Ψ φ' ρ vars bs { s with heap := h, toks := tk } ∧ Rep φ' C.β (.ref a) (.tuple ds) := by
  have Y : St C F env Ψ φ ρ vars bs { s with heap := h, toks := tk } := X.grow hk
  have hφ := (X.G.new hn).1
  refine ⟨φ.put a (tupOf vs.toArray n), Store.le_put hφ, Y.freeze ha hφ (X.G.new hn).2 (X.bne hn) (Y.ne_loc ha) (Y.ne_cell ha) ?_, .tuple (Store.put_self ..) (hr.mono (Store.le_put hφ))⟩
  intro x es e q
  obtain ⟨b, vs', n', h1, h2, _⟩ := X.F.mu x es e
  rw [h1] at q; cases q
  rw [hn] at h2; cases h2
noncomputable def R.norm : R → R
  | .own ds => .val (.list ds)
  | r => r
noncomputable def R.items : R → Option (List D)
  | .val (.list ds) => some ds
  | .bor _ ds => some ds
  | .own ds => some ds
  | _ => none
theorem norm_step {C : Cx} {F : Fm} {env : Env} {Ψ φ : Store} {ρ : Str → Option Value} {vars : Vars} {bs : BS} {s : Shared} (X : St C F env Ψ φ ρ vars bs s) {v : Value} {r : R} (hr : RV C env Ψ φ ρ vars s v r) :
    ∃ φ', φ.Le φ' ∧ St C F env Ψ φ' ρ vars bs s ∧ RV C env Ψ φ' ρ vars s v r.norm := by
  cases r with
  | val d => exact ⟨φ, Store.Le.refl φ, X, hr⟩
  | bor x ds => exact ⟨φ, Store.Le.refl φ, X, hr⟩
  | own ds =>
    obtain ⟨a, ⟨vs, n, rfl, h1, h2, h3, h4, h5⟩, h6⟩ := hr
    obtain ⟨vs⟩ := vs
    exact ⟨φ.put a _, Store.le_put h3, X.freeze h1 h3 h4 h5 (X.ne_loc h1) (X.ne_cell h1) h6, .list (Store.put_self ..) (h2.mono (Store.le_put h3))⟩
theorem RV.carry {C : Cx} {env : Env} {Ψ φ φ' : Store} {ρ : Str → Option Value} {vars : Vars} {s s' : Shared} {v : Value} {r : R} (h : RV C env Ψ φ ρ vars s v r.norm) (le : φ.Le φ') : RV C env Ψ φ' ρ vars s' v r.norm := by
  cases r with
  | val d => exact Rep.mono le h
  | bor x ds => exact h
  | own ds => exact Rep.mono le h
/-- the list that a result stands for -/
theorem items_inv {r : R} {ds : List D} (h : r.items = some ds) : r = .val (.list ds) ∨ (∃ x, r = .bor x ds) ∨ r = .own ds := by
  unfold R.items at h
  split at h
  · cases h; exact .inl rfl
  · cases h; exact .inr (.inl ⟨_, rfl⟩)
  · cases h; exact .inr (.inr rfl)
  · cases h
theorem RV.view {C : Cx} {F : Fm} {env : Env} {Ψ φ : Store} {ρ : Str → Option Value} {vars : Vars} {bs : BS} {s : Shared} (X : St C F env Ψ φ ρ vars bs s) {v : Value} {r : R} {ds : List D} (hr : RV C env Ψ φ ρ vars s v r) (hi : r.items = some ds) :
    ∃ a vs n, v = .ref a ∧ s.heap.get? a = some (listOf vs n) ∧ Reps φ C.β vs.toList ds := by
  rcases items_inv hi with rfl | ⟨x, rfl⟩ | rfl
  · obtain ⟨a, vs, n, rfl, h1, h2⟩ := Rep.list_inv hr
    exact ⟨_, _, _, rfl, X.G.fro _ _ h1, h2⟩
  · obtain ⟨h1, h2⟩ := hr
    obtain ⟨a, vs, n, h3, h4, h5, _⟩ := X.F.mu _ _ h2
    rw [h3] at h1; cases h1
    exact ⟨a, vs, n, rfl, h4, h5⟩
  · obtain ⟨a, ⟨vs, n, h1, h2, h3, _⟩, _⟩ := hr
    exact ⟨a, vs, n, h1, h2, h3⟩
end Mine
end
section
set_option maxRecDepth 100000
set_option linter.unusedVariables false
namespace Mine
open PySem PySem.W PySem.Calls PyProof.Rows PySem.Spec
noncomputable def isVar (sc : Scope) (x : Str) : Bool := !(x == ("__debug__" : Str)) && !(x == ("__classdict__" : Str)) && (match sc.names.lookup x with
  | some .local => true
  | some .cell => true
  | some .free => true
  | _ => false)
noncomputable def isLoc (F : Fm) (x : Str) : Bool := match F.sc.names.lookup x with
  | some .local => true
  | some .cell => F.ow.contains x
  | _ => false
section
variable {C : Cx} {F : Fm} {vars : Vars} {bs : BS} {Q : BS → R → Prop}
/-- how an operation ends -/
inductive OpR (C : Cx) (F : Fm) (env : Env) (Ψ φ : Store) (ρ : Str → Option Value) (vars : Vars) (bs : BS) (k : R → Prop) (v : Value) (s' : Shared) : Prop
  | intro (φ' : Store) (r : R) (le : φ.Le φ') (X : St C F env Ψ φ' ρ vars bs s') (h : RV C env Ψ φ' ρ vars s' v r) (q : k r)
structure Op2 (C : Cx) (t : Value → Value → Sem Value) (r1 r2 : R) (k : R → Prop) : Prop where
  run : ∀ n F A env Ψ φ ρ vars bs s v1 v2, AOk n A → St C F env Ψ φ ρ vars bs s → RV C env Ψ φ ρ vars s v1 r1 → RV C env Ψ φ ρ vars s v2 r2 →
    wpAny C.M A (t v1 v2) (OpR C F env Ψ φ ρ vars bs k) (fun _ _ => False) s
structure Op1 (C : Cx) (t : Value → Sem Value) (r1 : R) (k : R → Prop) : Prop where
  run : ∀ n F A env Ψ φ ρ vars bs s v1, AOk n A → St C F env Ψ φ ρ vars bs s → RV C env Ψ φ ρ vars s v1 r1 →
    wpAny C.M A (t v1) (OpR C F env Ψ φ ρ vars bs k) (fun _ _ => False) s
theorem wpM {α : Type} {M : Model} {A : Around} {t : Sem α} {Q R : α → Shared → Prop} {s : Shared} (h : wpAny M A t Q (fun _ _ => False) s) (k : ∀ v s', Q v s' → R v s') : wpAny M A t R (fun _ _ => False) s := wpAny_mono h k fun _ _ x => x
theorem Ev.mono {e : Expr} {Q' : BS → R → Prop} (h : Ev C F vars bs e Q) (hq : ∀ b r, Q b r → Q' b r) : Ev C F vars bs e Q' := ⟨fun A env Ψ φ ρ s hA X => wpM (h.run A env Ψ φ ρ s hA X) fun _ _ => EvR.mono hq⟩
theorem OpR.ev {env : Env} {Ψ φ φ1 : Store} {ρ : Str → Option Value} {k : R → Prop} {v : Value} {s' : Shared} (le : φ.Le φ1) (hq : ∀ r, k r → Q bs r) : OpR C F env Ψ φ1 ρ vars bs k v s' → EvR C F env Ψ φ ρ vars Q v s'
  | ⟨φ', r, l, X, h, q⟩ => ⟨φ', bs, r, le.trans l, X, h, hq _ q⟩
inductive TwoR (C : Cx) (F : Fm) (env : Env) (Ψ φ : Store) (ρ : Str → Option Value) (vars : Vars) (K : BS → R → R → Prop) (a b : Value) (s' : Shared) : Prop
  | intro (φ' : Store) (bs' : BS) (r1 r2 : R) (le : φ.Le φ') (X : St C F env Ψ φ' ρ vars bs' s') (h1 : RV C env Ψ φ' ρ vars s' a r1) (h2 : RV C env Ψ φ' ρ vars s' b r2) (q : K bs' r1 r2)
inductive OneR (C : Cx) (F : Fm) (env : Env) (Ψ φ : Store) (ρ : Str → Option Value) (vars : Vars) (K : BS → R → Prop) (a : Value) (s' : Shared) : Prop
  | intro (φ' : Store) (bs' : BS) (r : R) (le : φ.Le φ') (X : St C F env Ψ φ' ρ vars bs' s') (h : RV C env Ψ φ' ρ vars s' a r.norm) (q : K bs' r.norm)
theorem EvR.one {env : Env} {Ψ φ : Store} {ρ : Str → Option Value} {K : BS → R → Prop} {v : Value} {s' : Shared} : EvR C F env Ψ φ ρ vars (fun b r => K b r.norm) v s' → OneR C F env Ψ φ ρ vars K v s'
  | ⟨_, b, r, le, X, h, q⟩ => let ⟨φ', l, X', h'⟩ := norm_step X h; ⟨φ', b, r, le.trans l, X', h', q⟩
theorem one {l : Expr} {K : BS → R → Prop} (h : Ev C F vars bs l fun b1 r1 => K b1 r1.norm) {A : Around} {env : Env} {Ψ φ : Store} {ρ : Str → Option Value} {s : Shared} (hA : AOk F.n A) (X : St C F env Ψ φ ρ vars bs s) :
    wpAny C.M A (eval l env) (OneR C F env Ψ φ ρ vars K) (fun _ _ => False) s := wpM (h.run A env Ψ φ ρ s hA X) fun _ _ => EvR.one
/-- two operands, one behind the other -/
theorem two {l r : Expr} {K : BS → R → R → Prop} (h : Ev C F vars bs l fun b1 r1 => Ev C F vars b1 r fun b2 r2 => K b2 r1.norm r2.norm) {A : Around} {env : Env} {Ψ φ : Store} {ρ : Str → Option Value} {s : Shared} (hA : AOk F.n A) (X : St C F env Ψ φ ρ vars bs s) :
    wpAny C.M A (eval l env) (fun a s1 => wpAny C.M A (eval r env) (TwoR C F env Ψ φ ρ vars K a) (fun _ _ => False) s1) (fun _ _ => False) s :=
  wpM (one (K := fun b1 r1 => Ev C F vars b1 r fun b2 r2 => K b2 r1 r2.norm) h hA X) fun a s1 ⟨_, _, r1, le1, X1, h1, k1⟩ =>
    wpM (one (K := fun b2 r2 => K b2 r1.norm r2) k1 hA X1) fun b s2 ⟨φ', b2, r2, le2, X2, h2, k2⟩ => ⟨φ', b2, _, _, le1.trans le2, X2, h1.carry le2, h2, k2⟩
theorem Ev_int {i : Int} {k : Nat} {pos : Pos} (h : Q bs (.val (.int i))) : Ev C F vars bs (.Constant (.int i) k pos) Q :=
  ⟨fun _ _ _ φ _ _ _ X => wpAny_Constant_int ⟨φ, bs, .val _, Store.Le.refl φ, X.tick, Rep.int _ _, h⟩⟩
theorem Ev_bool {b : Bool} {k : Nat} {pos : Pos} (h : Q bs (.val (.bool b))) : Ev C F vars bs (.Constant (.bool b) k pos) Q :=
  ⟨fun _ _ _ φ _ _ _ X => wpAny_Constant_bool ⟨φ, bs, .val _, Store.Le.refl φ, X, Rep.bool _, h⟩⟩
/-- a name of the frame is read -/
theorem load_at {env : Env} {Ψ φ : Store} {ρ : Str → Option Value} {s : Shared} {A : Around} {x : Str} {v : Value} {P : Value → Shared → Prop} (X : St C F env Ψ φ ρ vars bs s) (hv : ρ x = some v) (h : P v s)
    (hk : isVar F.sc x = true) : wpAny C.M A (loadName env x) P (fun _ _ => False) s := by
  unfold isVar at hk
  simp only [Bool.and_eq_true, Bool.not_eq_true'] at hk
  obtain ⟨⟨hd, hc⟩, hk⟩ := hk
  have hkind : env.scope.kind = .function := by rw [X.F.sc]; exact X.F.kind
  split at hk
  · rename_i e
    obtain ⟨m, h1, h2⟩ := X.F.ns
    exact wpAny_loadName_local hkind (by show env.scope.names.lookup x = _; rw [X.F.sc]; exact e) h1 (h2 x v hv e) h
  · rename_i e
    obtain ⟨c, h1, h2⟩ := X.F.cell x v hv (.inl e)
    exact wpAny_loadName_cell hkind (by show env.scope.names.lookup x = _; rw [X.F.sc]; exact e) h1 h2 h
  · rename_i e
    obtain ⟨c, h1, h2⟩ := X.F.cell x v hv (.inr e)
    exact wpAny_loadName_free hkind (by show env.scope.names.lookup x = _; rw [X.F.sc]; exact e) h1 h2 h hc
  · cases hk
theorem name_at {env : Env} {Ψ φ : Store} {ρ : Str → Option Value} {s : Shared} {A : Around} {x : Str} {pos : Pos} {v : Value} {P : Value → Shared → Prop} (X : St C F env Ψ φ ρ vars bs s) (hv : ρ x = some v) (h : P v s)
    (hk : isVar F.sc x = true) : wpAny C.M A (eval (.Name x pos) env) P (fun _ _ => False) s :=
  wpAny_Name (load_at X hv h hk) (by unfold isVar at hk; simp only [Bool.and_eq_true, Bool.not_eq_true'] at hk; exact hk.1.1)
theorem Ev_name {x : Str} {pos : Pos} {d : D} (hv : vars.lookup x = some (.val d)) (hk : isVar F.sc x = true) (h : Q bs (.val d)) : Ev C F vars bs (.Name x pos) Q :=
  ⟨fun _ _ _ φ _ _ _ X => let ⟨_, h1, h2⟩ := X.F.val x d hv; name_at X h1 ⟨φ, bs, .val _, Store.Le.refl φ, X, h2, h⟩ hk⟩
theorem Ev_name_mu {x : Str} {pos : Pos} {ds : List D} (hv : vars.lookup x = some (.mu ds)) (hk : isVar F.sc x = true) (h : Q bs (.bor x ds)) : Ev C F vars bs (.Name x pos) Q :=
  ⟨fun _ _ _ φ _ _ _ X => let ⟨_, _, _, h1, _⟩ := X.F.mu x ds hv; name_at X h1 ⟨φ, bs, .bor _ _, Store.Le.refl φ, X, ⟨h1, hv⟩, h⟩ hk⟩
theorem Ev_bin {l r : Expr} {op : Operator} {pos : Pos} (h : Ev C F vars bs l fun b1 r1 => Ev C F vars b1 r fun b2 r2 => Op2 C (binaryOp op) r1.norm r2.norm (Q b2)) : Ev C F vars bs (.BinOp l op r pos) Q :=
  ⟨fun A env Ψ φ ρ s hA X => wpAny_BinOp (wpM (two (K := fun b2 r1 r2 => Op2 C (binaryOp op) r1 r2 (Q b2)) h hA X) fun _ _ h1 => wpM h1 fun _ _ ⟨_, _, _, _, le, X2, h1, h2, k⟩ =>
    wpM (k.run _ _ _ _ _ _ _ _ _ _ _ _ hA X2 h1 h2) fun _ _ => OpR.ev le fun _ x => x)⟩
theorem Ev_cmp {l r : Expr} {op : CmpOp} {pos : Pos} (h : Ev C F vars bs l fun b1 r1 => Ev C F vars b1 r fun b2 r2 => Op2 C (compareOp op) r1.norm r2.norm (Q b2)) (hm : behindInMarks op r = false) : Ev C F vars bs (.Compare l [op] [r] pos) Q :=
  ⟨fun A env Ψ φ ρ s hA X => wpAny_Compare1 (wpM (two (K := fun b2 r1 r2 => Op2 C (compareOp op) r1 r2 (Q b2)) h hA X) fun _ _ h1 => wpM h1 fun _ _ ⟨_, _, _, _, le, X2, h1, h2, k⟩ =>
    wpM (k.run _ _ _ _ _ _ _ _ _ _ _ _ hA X2 h1 h2) fun _ _ => OpR.ev le fun _ x => x) hm⟩
/-- a bool for a test -/
noncomputable def BoolK (k : Bool → Prop) : R → Prop
  | .val (.bool b) => k b
  | _ => False
theorem BoolK.get {k : Bool → Prop} {r : R} (h : BoolK k r) : ∃ b, r = .val (.bool b) ∧ k b := by
  unfold BoolK at h
  split at h
  · exact ⟨_, rfl, h⟩
  · exact h.elim
theorem boolK_inv {env : Env} {Ψ φ : Store} {ρ : Str → Option Value} {s : Shared} {v : Value} {r : R} {k : Bool → Prop} (h : RV C env Ψ φ ρ vars s v r) (hk : BoolK k r) : ∃ b, v = .bool b ∧ k b := by
  obtain ⟨b, rfl, hb⟩ := hk.get
  exact ⟨b, Rep.bool_inv h, hb⟩
theorem truthy_bool {A : Around} {P : Bool → Shared → Prop} {E : Value → Shared → Prop} {s : Shared} {b : Bool} (h : P b s) : wpAny C.M A (truthy (.bool b)) P E s := wpAny_truthy_bool h
theorem boolK_truthy {env : Env} {Ψ φ : Store} {ρ : Str → Option Value} {s : Shared} {A : Around} {v : Value} {r : R} {k : Bool → Prop} {P : Bool → Shared → Prop} {E : Value → Shared → Prop} (h : RV C env Ψ φ ρ vars s v r) (hk : BoolK k r)
    (hp : ∀ b, k b → P b s) : wpAny C.M A (truthy v) P E s := by
  obtain ⟨b, rfl, hb⟩ := boolK_inv h hk
  exact truthy_bool (hp b hb)
theorem OpR.ts {env : Env} {Ψ φ φ1 : Store} {ρ : Str → Option Value} {Q : BS → Bool → Prop} {A : Around} {E : Value → Shared → Prop} {v : Value} {s' : Shared} (le : φ.Le φ1) : OpR C F env Ψ φ1 ρ vars bs (BoolK (Q bs)) v s' → wpAny C.M A (truthy v) (TsR C F env Ψ φ ρ vars Q) E s'
  | ⟨φ', _, l, X, h, q⟩ => boolK_truthy h q fun _ hb => ⟨φ', bs, le.trans l, X, hb⟩
theorem Ts_cmp {l r : Expr} {op : CmpOp} {pos : Pos} {Q : BS → Bool → Prop} (h : Ev C F vars bs l fun b1 r1 => Ev C F vars b1 r fun b2 r2 => Op2 C (compareOp op) r1.norm r2.norm (BoolK (Q b2))) (hm : behindInMarks op r = false) : Ts C F vars bs (.Compare l [op] [r] pos) Q :=
  ⟨fun A env Ψ φ ρ s hA X => wpAny_isTrue_Compare1 (wpM (two (K := fun b2 r1 r2 => Op2 C (compareOp op) r1 r2 (BoolK (Q b2))) h hA X) fun _ _ h1 => wpM h1 fun _ _ ⟨_, _, _, _, le, X2, h1, h2, k⟩ =>
    wpM (k.run _ _ _ _ _ _ _ _ _ _ _ _ hA X2 h1 h2) fun _ _ => OpR.ts le) hm⟩
theorem Ts_not {x : Expr} {pos : Pos} {Q : BS → Bool → Prop} (h : Ts C F vars bs x fun b t => Q b (!t)) : Ts C F vars bs (.UnaryOp .Not x pos) Q :=
  ⟨fun A env Ψ φ ρ s hA X => wpAny_isTrue_Not (wpM (h.run A env Ψ φ ρ s hA X) fun _ _ ⟨φ', b, le, X, q⟩ => ⟨φ', b, le, X, q⟩)⟩
theorem Ts_val {e : Expr} {Q : BS → Bool → Prop} (h : Ev C F vars bs e fun b r => BoolK (Q b) r) (he : ∀ env (whole : Sem Value), isTrue e env whole = (do let v ← whole; standAt e.pos; holding [v] (truthy v))) : Ts C F vars bs e Q :=
  ⟨fun A env Ψ φ ρ s hA X => wpAny_isTrue_value (wpM (h.run A env Ψ φ ρ s hA X) fun _ _ ⟨φ', b, r, le, X', h', k⟩ => boolK_truthy h' k fun t ht => ⟨φ', b, le, X', ht⟩) (he _ _)⟩
structure TsA (C : Cx) (F : Fm) (vars : Vars) (bs : BS) (op : BoolOp) (es : List Expr) (Q : BS → Bool → Prop) : Prop where
  run : ∀ A env Ψ φ ρ s, AOk F.n A → St C F env Ψ φ ρ vars bs s → wpAny C.M A (allTrue op es env) (TsR C F env Ψ φ ρ vars Q) (fun _ _ => False) s
theorem Ts_boolop {op : BoolOp} {es : List Expr} {pos : Pos} {Q : BS → Bool → Prop} (h : TsA C F vars bs op es Q) : Ts C F vars bs (.BoolOp op es pos) Q :=
  ⟨fun A env Ψ φ ρ s hA X => wpAny_isTrue_BoolOp (h.run A env Ψ φ ρ s hA X)⟩
theorem TsA_and_nil {Q : BS → Bool → Prop} (h : Q bs true) : TsA C F vars bs .And [] Q := ⟨fun _ _ _ φ _ _ _ X => wpAny_allTrue_And_nil ⟨φ, bs, Store.Le.refl φ, X, h⟩⟩
theorem TsA_or_nil {Q : BS → Bool → Prop} (h : Q bs false) : TsA C F vars bs .Or [] Q := ⟨fun _ _ _ φ _ _ _ X => wpAny_allTrue_Or_nil ⟨φ, bs, Store.Le.refl φ, X, h⟩⟩
theorem TsA_and {x : Expr} {rest : List Expr} {Q : BS → Bool → Prop} (h : Ts C F vars bs x fun b t => (t = true → TsA C F vars b .And rest Q) ∧ (t = false → Q b false)) : TsA C F vars bs .And (x :: rest) Q :=
  ⟨fun A env Ψ φ ρ s hA X => wpAny_allTrue_And_cons (wpM (h.run A env Ψ φ ρ s hA X) fun t _ ⟨φ', b, le, X', k⟩ => by
    cases t with
    | true => exact wpM ((k.1 rfl).run A env Ψ φ' ρ _ hA X') fun _ _ => TsR.le le
    | false => exact ⟨φ', b, le, X', k.2 rfl⟩)⟩
theorem TsA_or {x : Expr} {rest : List Expr} {Q : BS → Bool → Prop} (h : Ts C F vars bs x fun b t => (t = true → Q b true) ∧ (t = false → TsA C F vars b .Or rest Q)) : TsA C F vars bs .Or (x :: rest) Q :=
  ⟨fun A env Ψ φ ρ s hA X => wpAny_allTrue_Or_cons (wpM (h.run A env Ψ φ ρ s hA X) fun t _ ⟨φ', b, le, X', k⟩ => by
    cases t with
    | false => exact wpM ((k.2 rfl).run A env Ψ φ' ρ _ hA X') fun _ _ => TsR.le le
    | true => exact ⟨φ', b, le, X', k.1 rfl⟩)⟩
theorem Ev_and {x y : Expr} {pos : Pos} (h : Ev C F vars bs x fun b r => BoolK (fun t => (t = true → Ev C F vars b y Q) ∧ (t = false → Q b (.val (.bool false)))) r) : Ev C F vars bs (.BoolOp .And [x, y] pos) Q :=
  ⟨fun A env Ψ φ ρ s hA X => wpAny_And2 (wpM (h.run A env Ψ φ ρ s hA X) fun v s1 ⟨φ', b, r, le, X', h', k⟩ => by
    obtain ⟨t, rfl, k⟩ := boolK_inv h' k
    refine truthy_bool ?_
    cases t with
    | true => exact wpM ((k.1 rfl).run A env Ψ φ' ρ _ hA X') fun _ _ => EvR.le le
    | false => exact ⟨φ', b, .val _, le, X', Rep.bool _, k.2 rfl⟩)⟩
theorem Ev_if {t x y : Expr} {pos : Pos} (h : Ts C F vars bs t fun b c => (c = true → Ev C F vars b x Q) ∧ (c = false → Ev C F vars b y Q)) : Ev C F vars bs (.IfExp t x y pos) Q :=
  ⟨fun A env Ψ φ ρ s hA X => wpAny_IfExp (wpM (h.run A env Ψ φ ρ s hA X) fun c s1 ⟨φ', b, le, X', k⟩ => by
    cases c with
    | true => exact wpM ((k.1 rfl).run A env Ψ φ' ρ _ hA X') fun _ _ => EvR.le le
    | false => exact wpM ((k.2 rfl).run A env Ψ φ' ρ _ hA X') fun _ _ => EvR.le le)⟩
/-- 0 <= a < b -/
theorem Ts_cmp2 {l m r : Expr} {o1 o2 : CmpOp} {pos : Pos} {Q : BS → Bool → Prop}
    (h : Ev C F vars bs l fun b1 r1 => Ev C F vars b1 m fun b2 r2 => Op2 C (compareOp o1) r1.norm r2.norm (BoolK fun t => (t = true → Ev C F vars b2 r fun b3 r3 => Op2 C (compareOp o2) r2.norm r3.norm (BoolK (Q b3))) ∧ (t = false → Q b2 false)))
    (hm : behindInMarks o2 r = false) : Ts C F vars bs (.Compare l [o1, o2] [m, r] pos) Q :=
  ⟨fun A env Ψ φ ρ s hA X => by
    show wpAny C.M A (do testChain pos (← eval l env) [o1, o2] [eval m env, markedBehindIn o2 r (eval r env)]) _ _ s
    rw [markedBehindIn_of_false hm]
    refine wpAny_bind (wpM (one (K := fun b1 r1 => Ev C F vars b1 m fun b2 r2 => Op2 C (compareOp o1) r1 r2.norm (BoolK fun t => (t = true → Ev C F vars b2 r fun b3 r3 => Op2 C (compareOp o2) r2.norm r3.norm (BoolK (Q b3))) ∧ (t = false → Q b2 false))) h hA X) fun a s1 ⟨φ2, b1, r1, le1, X2, h2, k1⟩ => ?_)
    show wpAny C.M A (do let rv ← holding [a] (eval m env); standAt pos; let c ← holding [a, rv] (compareOp o1 a rv); release [a, rv] [c]; if ← holding [c, rv] (truthy c) then testChain pos rv [o2] [eval r env] else pure false) _ _ s1
    refine wpAny_bind (wpAny_holding (wpM (one (K := fun b2 r2 => Op2 C (compareOp o1) r1.norm r2 (BoolK fun t => (t = true → Ev C F vars b2 r fun b3 r3 => Op2 C (compareOp o2) r2 r3.norm (BoolK (Q b3))) ∧ (t = false → Q b2 false))) k1 hA X2) fun b s2 ⟨φ4, b2, r2, le3, X4, h4, k3⟩ => ?_))
    refine wpAny_bind (wpAny_standAt (wpAny_bind (wpAny_holding (wpM (k3.run _ _ _ _ _ _ _ _ _ _ _ _ hA X4 (h2.carry le3) h4) fun c s3 ⟨φ5, r5, le5, X5, h5, k5⟩ => ?_))))
    refine wpAny_bind (PySem.wpAny_release (wpAny_bind (wpAny_holding (boolK_truthy h5 k5 fun t ht => ?_))))
    have le : φ.Le φ5 := (le1.trans le3).trans le5
    cases t with
    | false => exact wpAny_pure ⟨φ5, _, le, X5, ht.2 rfl⟩
    | true =>
      show wpAny C.M A (do let rv ← holding [b] (eval r env); standAt pos; let c ← operate [b, rv] (compareOp o2 b rv); holding [c] (truthy c)) _ _ s3
      refine wpAny_bind (wpAny_holding (wpM (one (K := fun b3 r3 => Op2 C (compareOp o2) r2.norm r3 (BoolK (Q b3))) (ht.1 rfl) hA X5) fun d s4 ⟨φ7, b6, r6, le6, X7, h7, k6⟩ => ?_))
      refine wpAny_bind (wpAny_standAt (wpAny_bind (wpAny_operateT (wpM (k6.run _ _ _ _ _ _ _ _ _ _ _ _ hA X7 (h4.carry (le5.trans le6)) h7) fun c s5 hh => ?_))))
      exact wpAny_holding (OpR.ts (le.trans le6) hh)⟩
end
end Mine
end
section
set_option maxRecDepth 100000
set_option linter.unusedVariables false
namespace Mine
open PySem PySem.W PySem.Calls PyProof.Rows PySem.Spec
section
variable {C : Cx} {F : Fm} {vars : Vars} {bs : BS} {Q : BS → R → Prop} {k : R → Prop} {a b : Int}
theorem end_int {env : Env} {Ψ φ : Store} {ρ : Str → Option Value} {s : Shared} {c : Int} {u : Tok} {tk : Nat} (X : St C F env Ψ φ ρ vars bs s) (hk : k (.val (.int c))) :
    OpR C F env Ψ φ ρ vars bs k (.int c u) { s with toks := tk } := ⟨φ, .val _, Store.Le.refl φ, X.tick, Rep.int _ _, hk⟩
theorem end_bool {env : Env} {Ψ φ : Store} {ρ : Str → Option Value} {s : Shared} {c : Bool} (X : St C F env Ψ φ ρ vars bs s) (hk : k (.val (.bool c))) :
    OpR C F env Ψ φ ρ vars bs k (.bool c) s := ⟨φ, .val _, Store.Le.refl φ, X, Rep.bool _, hk⟩
theorem add_i (h : k (.val (.int (a + b)))) : Op2 C (binaryOp .Add) (.val (.int a)) (.val (.int b)) k :=
  ⟨fun n F A env Ψ φ ρ vars bs s v1 v2 hA X h1 h2 => by obtain ⟨_, rfl⟩ := Rep.int_inv h1; obtain ⟨_, rfl⟩ := Rep.int_inv h2; exact PyProof.Rows.add_int (end_int X h)⟩
theorem iadd_i (h : k (.val (.int (a + b)))) : Op2 C (inplaceOp .Add) (.val (.int a)) (.val (.int b)) k :=
  ⟨fun n F A env Ψ φ ρ vars bs s v1 v2 hA X h1 h2 => by obtain ⟨_, rfl⟩ := Rep.int_inv h1; obtain ⟨_, rfl⟩ := Rep.int_inv h2; exact PyProof.Rows.iadd_int (end_int X h)⟩
theorem sub_i (h : k (.val (.int (a - b)))) : Op2 C (binaryOp .Sub) (.val (.int a)) (.val (.int b)) k :=
  ⟨fun n F A env Ψ φ ρ vars bs s v1 v2 hA X h1 h2 => by obtain ⟨_, rfl⟩ := Rep.int_inv h1; obtain ⟨_, rfl⟩ := Rep.int_inv h2; exact PyProof.Rows.sub_int (end_int X h)⟩
theorem mul_i (hb : -(2 ^ 64) < b ∧ b < 2 ^ 64) (h : k (.val (.int (a * b)))) : Op2 C (binaryOp .Mult) (.val (.int a)) (.val (.int b)) k :=
  ⟨fun n F A env Ψ φ ρ vars bs s v1 v2 hA X h1 h2 => by obtain ⟨_, rfl⟩ := Rep.int_inv h1; obtain ⟨_, rfl⟩ := Rep.int_inv h2; exact PyProof.Rows.mul_int (end_int X h) (IntMulOk.of_right (intBits_le_64 hb.1 hb.2))⟩
theorem mod_i (hb : b ≠ 0) (h : k (.val (.int (a.fmod b)))) : Op2 C (binaryOp .Mod) (.val (.int a)) (.val (.int b)) k :=
  ⟨fun n F A env Ψ φ ρ vars bs s v1 v2 hA X h1 h2 => by obtain ⟨_, rfl⟩ := Rep.int_inv h1; obtain ⟨_, rfl⟩ := Rep.int_inv h2; exact PyProof.Rows.mod_int hb (end_int X h)⟩
theorem div_i (hb : b ≠ 0) (hs : b.natAbs < 1073741824) (h : k (.val (.int (a.fdiv b)))) : Op2 C (binaryOp .FloorDiv) (.val (.int a)) (.val (.int b)) k :=
  ⟨fun n F A env Ψ φ ρ vars bs s v1 v2 hA X h1 h2 => by obtain ⟨_, rfl⟩ := Rep.int_inv h1; obtain ⟨_, rfl⟩ := Rep.int_inv h2; exact PyProof.Rows.floordiv_int hb (end_int X h) (.inl (PyProof.noPylong_small hs))⟩
theorem pow_i (hb : 0 ≤ b ∧ b ≤ 1000000) (ha : a.natAbs < 2 ^ 64) (h : k (.val (.int (a ^ b.toNat)))) : Op2 C (binaryOp .Pow) (.val (.int a)) (.val (.int b)) k :=
  ⟨fun n F A env Ψ φ ρ vars bs s v1 v2 hA X h1 h2 => by obtain ⟨_, rfl⟩ := Rep.int_inv h1; obtain ⟨_, rfl⟩ := Rep.int_inv h2; exact PyProof.Rows.pow_int_small hb.1 hb.2 ha (end_int X h)⟩
theorem lt_i (h : k (.val (.bool (decide (a < b))))) : Op2 C (compareOp .Lt) (.val (.int a)) (.val (.int b)) k :=
  ⟨fun n F A env Ψ φ ρ vars bs s v1 v2 hA X h1 h2 => by obtain ⟨_, rfl⟩ := Rep.int_inv h1; obtain ⟨_, rfl⟩ := Rep.int_inv h2; exact PyProof.Rows.lt_int (end_bool X h)⟩
theorem gt_i (h : k (.val (.bool (decide (b < a))))) : Op2 C (compareOp .Gt) (.val (.int a)) (.val (.int b)) k :=
  ⟨fun n F A env Ψ φ ρ vars bs s v1 v2 hA X h1 h2 => by obtain ⟨_, rfl⟩ := Rep.int_inv h1; obtain ⟨_, rfl⟩ := Rep.int_inv h2; exact PyProof.Rows.gt_int (end_bool X h)⟩
theorem le_i (h : k (.val (.bool (decide (a ≤ b))))) : Op2 C (compareOp .LtE) (.val (.int a)) (.val (.int b)) k :=
  ⟨fun n F A env Ψ φ ρ vars bs s v1 v2 hA X h1 h2 => by obtain ⟨_, rfl⟩ := Rep.int_inv h1; obtain ⟨_, rfl⟩ := Rep.int_inv h2; exact PyProof.Rows.le_int (end_bool X h)⟩
theorem ge_i (h : k (.val (.bool (decide (b ≤ a))))) : Op2 C (compareOp .GtE) (.val (.int a)) (.val (.int b)) k :=
  ⟨fun n F A env Ψ φ ρ vars bs s v1 v2 hA X h1 h2 => by obtain ⟨_, rfl⟩ := Rep.int_inv h1; obtain ⟨_, rfl⟩ := Rep.int_inv h2; exact PyProof.Rows.ge_int (end_bool X h)⟩
theorem eq_i (h : k (.val (.bool (decide (a = b))))) : Op2 C (compareOp .Eq) (.val (.int a)) (.val (.int b)) k :=
  ⟨fun n F A env Ψ φ ρ vars bs s v1 v2 hA X h1 h2 => by obtain ⟨_, rfl⟩ := Rep.int_inv h1; obtain ⟨_, rfl⟩ := Rep.int_inv h2; exact PyProof.Rows.eq_int (end_bool X (by rwa [show (a == b) = decide (a = b) from rfl]))⟩
theorem ne_i (h : k (.val (.bool (decide (a ≠ b))))) : Op2 C (compareOp .NotEq) (.val (.int a)) (.val (.int b)) k :=
  ⟨fun n F A env Ψ φ ρ vars bs s v1 v2 hA X h1 h2 => by obtain ⟨_, rfl⟩ := Rep.int_inv h1; obtain ⟨_, rfl⟩ := Rep.int_inv h2; exact PyProof.Rows.ne_int (end_bool X (by rwa [show (a != b) = decide (a ≠ b) from (by rw [bne, show (a == b) = decide (a = b) from rfl]; by_cases q : a = b <;> simp [q])]))⟩
theorem bInts_inj {x y : Array UInt8} (h : KBw.bInts x = KBw.bInts y) : x.toList = y.toList := by
  unfold KBw.bInts at h
  have := List.map_inj_right (f := fun c : UInt8 => (c.toNat : Int)) (fun a b e => by have e' : (a.toNat : Int) = b.toNat := e; exact UInt8.toNat_inj.mp (by lia)) |>.mp h
  exact this
theorem bInts_len (x : Array UInt8) : (KBw.bInts x).length = x.size := by simp [KBw.bInts]
theorem eq_by {x y : List Int} (h : ∀ t, (t = true ↔ x = y) → k (.val (.bool t))) : Op2 C (compareOp .Eq) (.val (.bytes x)) (.val (.bytes y)) k :=
  ⟨fun n F A env Ψ φ ρ vars bs s v1 v2 hA X h1 h2 => by
    obtain ⟨_, t, rfl, e⟩ := Rep.bytes_inv h1
    obtain ⟨_, u, rfl, e'⟩ := Rep.bytes_inv h2
    exact PySem.W.eq_bytes (end_bool X (h _ (by
        rw [beq_iff_eq]
        constructor
        · intro q; rw [← e, ← e']; unfold KBw.bInts; rw [q]
        · intro q; rw [← e, ← e'] at q; exact bInts_inj q)))⟩
theorem len_by {x : List Int} (hx : x.length ≤ 16777216) (h : k (.val (.int x.length))) : Op1 C (fun v => call (.builtin "len") [v]) (.val (.bytes x)) k :=
  ⟨fun n F A env Ψ φ ρ vars bs s v1 hA X h1 => by
    obtain ⟨b, t, rfl, e⟩ := Rep.bytes_inv h1
    have e2 := bInts_len b
    rw [e] at e2
    refine PySem.W.len_bytes (by lia) ?_
    rw [← e2]
    exact end_int X h⟩
theorem IsListOf {h : Heap} {l : Addr} {vs : Array Value} {n : Nat} (e : h.get? l = some (listOf vs n)) : h.IsList l vs := ⟨_, e, rfl, n, rfl⟩
theorem IsTupOf {h : Heap} {l : Addr} {vs : Array Value} {n : Nat} (e : h.get? l = some (tupOf vs n)) : h.IsTuple l vs := ⟨_, e, rfl, n, rfl⟩
theorem len_l {r : R} {ds : List D} (hi : r.items = some ds) (hx : ds.length ≤ 16777216) (h : k (.val (.int ds.length))) : Op1 C (fun v => call (.builtin "len") [v]) r k :=
  ⟨fun n F A env Ψ φ ρ vars bs s v1 hA X h1 => by
    obtain ⟨l, vs, n', rfl, h2, h3⟩ := RV.view X h1 hi
    have e := h3.length
    rw [Array.length_toList] at e
    refine call_len_list (IsListOf h2) (by lia) ?_
    rw [e]
    exact end_int X h⟩
theorem item_l {r : R} {ds : List D} {d : D} (hi : r.items = some ds) (h0 : 0 ≤ b) (h1 : b < 2 ^ 63) (hd : ds[b.toNat]? = some d) (h : k (.val d)) : Op2 C getItem r (.val (.int b)) k :=
  ⟨fun n F A env Ψ φ ρ vars bs s v1 v2 hA X h2 h3 => by
    obtain ⟨_, rfl⟩ := Rep.int_inv h3
    obtain ⟨l, vs, n', rfl, h4, h5⟩ := RV.view X h2 hi
    obtain ⟨v, e, hv⟩ := h5.get hd
    exact wpAny_getItem_list (IsListOf h4) h0 h1 (by simpa using e) ⟨φ, .val _, Store.Le.refl φ, X, hv, h⟩⟩
theorem item_by {x : List Int} {c : Int} (h0 : 0 ≤ b) (hx : x.length ≤ 16777216) (hd : x[b.toNat]? = some c) (h : k (.val (.int c))) : Op2 C getItem (.val (.bytes x)) (.val (.int b)) k :=
  ⟨fun n F A env Ψ φ ρ vars bs s v1 v2 hA X h2 h3 => by
    obtain ⟨_, rfl⟩ := Rep.int_inv h3
    obtain ⟨⟨l⟩, t, rfl, e⟩ := Rep.bytes_inv h2
    · skip
      have e2 : l.map (fun c : UInt8 => (c.toNat : Int)) = x := e
      have e3 : l.length = x.length := by rw [← e2, List.length_map]
      have hlt : b.toNat < x.length := by
        rcases Nat.lt_or_ge b.toNat x.length with h | h
        · exact h
        · rw [List.getElem?_eq_none h] at hd; cases hd
      refine PySem.W.getItem_bytes (by lia) h0 (by lia) ?_
      have : ((l.getD b.toNat 0).toNat : Int) = c := by
        rw [← e2, List.getElem?_map] at hd
        rw [List.getD_eq_getElem?_getD]
        rw [List.getElem?_eq_getElem (by lia)] at hd ⊢
        simpa using hd
      rw [this]
      exact end_int X h⟩
/-- a part of a list -/
noncomputable def cut {α : Type} (lo hi : Option Int) (l : List α) : List α := (l.drop (lo.elim 0 (clipAt l.length))).take (hi.elim l.length (clipAt l.length) - lo.elim 0 (clipAt l.length))
theorem slicePick_cut (items : Array Value) (lo hi : Option Int) : slicePick items lo hi none = (cut lo hi items.toList).toArray := by
  have key : ∀ (v : Option Int) (dn : Nat), dn ≤ items.size → (match v with | none => (dn : Int) | some i => max 0 (min (if i < 0 then i + items.size else i) items.size)) = ((v.elim dn (clipAt items.size) : Nat) : Int) := by
    intro v dn _
    cases v with
    | none => rfl
    | some i => exact (clipAt_cast _ _).symm
  have e1 : (sliceBounds lo hi none items.size).1 = ((lo.elim 0 (clipAt items.size) : Nat) : Int) := by rw [← key lo 0 (Nat.zero_le _)]; cases lo <;> rfl
  have e2 : (sliceBounds lo hi none items.size).2.1 = ((hi.elim items.size (clipAt items.size) : Nat) : Int) := by rw [← key hi items.size (Nat.le_refl _)]; cases hi <;> rfl
  have e3 : (sliceBounds lo hi none items.size).2.2 = 1 := rfl
  unfold slicePick
  rw [e1, e2, e3, sliceRange_one, pick_run]
  unfold cut
  rw [Array.length_toList]
theorem Reps.cut {φ : Store} {β : Addr} {vs : List Value} {ds : List D} (h : Reps φ β vs ds) (lo hi : Option Int) : Reps φ β (cut lo hi vs) (cut lo hi ds) := by
  unfold Mine.cut
  rw [h.length]
  exact (h.drop _).take _
noncomputable def seqTy : R → Option String
  | .val (.bytes _) => some "bytes"
  | .val (.tuple _) => some "tuple"
  | .val (.list _) => some "list"
  | .bor _ _ => some "list"
  | .own _ => some "list"
  | _ => none
theorem inPy {A : Around} {s : Shared} {v : Value} {T id : String} {E : Value → Shared → Prop} {P : Bool → Shared → Prop} (hT : s.TypeIs v T) (hl : typeLookup (.type T) "__getitem__" = pure (some (.builtin id))) (h : P false s) : wpAny C.M A (getitemInPython v) P E s := by
  rw [getitemInPython_of_ne hT.not_modules]
  refine wpAny_bind (wpAny_specialOf hT hl ?_)
  exact wpAny_pure h
theorem seqTy_inv {r : R} {T : String} (hT : seqTy r = some T) : (T = "bytes" ∧ ∃ x, r = .val (.bytes x)) ∨ (T = "tuple" ∧ ∃ x, r = .val (.tuple x)) ∨ (T = "list" ∧ ∃ ds, r.items = some ds) := by
  unfold seqTy at hT
  split at hT
  · exact .inl ⟨(Option.some.inj hT).symm, _, rfl⟩
  · exact .inr (.inl ⟨(Option.some.inj hT).symm, _, rfl⟩)
  · exact .inr (.inr ⟨(Option.some.inj hT).symm, _, rfl⟩)
  · exact .inr (.inr ⟨(Option.some.inj hT).symm, _, rfl⟩)
  · exact .inr (.inr ⟨(Option.some.inj hT).symm, _, rfl⟩)
  · cases hT
theorem typeIs_of {env : Env} {Ψ φ : Store} {ρ : Str → Option Value} {s : Shared} {v : Value} {r : R} {T : String} (X : St C F env Ψ φ ρ vars bs s) (hr : RV C env Ψ φ ρ vars s v r) (hT : seqTy r = some T) : s.TypeIs v T := by
  rcases seqTy_inv hT with ⟨rfl, x, rfl⟩ | ⟨rfl, x, rfl⟩ | ⟨rfl, ds, hi⟩
  · obtain ⟨_, t, rfl, e⟩ := Rep.bytes_inv hr
    exact PySem.W.typeIs_bytes _ _ _
  · obtain ⟨_, _, _, rfl, h1, _⟩ := Rep.tuple_inv hr
    exact ⟨_, X.G.fro _ _ h1, rfl⟩
  · obtain ⟨a, vs, n, rfl, h, _⟩ := RV.view X hr hi
    exact ⟨_, h, rfl⟩
theorem look_of {r : R} {T : String} (hT : seqTy r = some T) : ∃ id, typeLookup (.type T) "__getitem__" = pure (some (.builtin id)) := by
  rcases seqTy_inv hT with ⟨rfl, _⟩ | ⟨rfl, _⟩ | ⟨rfl, _⟩
  · exact ⟨_, PySem.W.FB.slot_bytes_getitem.lookup⟩
  · exact ⟨_, PySem.F.slot_tuple_getitem.lookup⟩
  · exact ⟨_, slot_list_getitem.lookup⟩
noncomputable def notSlice : Expr → Bool
  | .Slice .. => false
  | _ => true
theorem subscripted_plain {i : Expr} (hs : notSlice i = true) (o x : Value) : subscripted i false o x = operate [o, x] (getItem o x) := by
  cases i <;> first | rfl | cases hs
theorem Ev_sub {v i : Expr} {pos : Pos} (h : Ev C F vars bs v fun b1 r1 => Ev C F vars b1 i fun b2 r2 => (seqTy r1.norm).isSome = true ∧ Op2 C getItem r1.norm r2.norm (Q b2)) (hs : notSlice i = true) : Ev C F vars bs (.Subscript v i pos) Q :=
  ⟨fun A env Ψ φ ρ s hA X => by
    rw [eval_Subscript]
    refine wpAny_bind (wpM (two (K := fun b2 r1 r2 => (seqTy r1).isSome = true ∧ Op2 C getItem r1 r2 (Q b2)) h hA X) fun o s1 h1 => wpAny_bind (wpAny_holding (wpM h1 fun x s2 ⟨φ2, b2, r1, r2, le, X2, h2, h3, h4, k⟩ => ?_)))
    obtain ⟨T, hT⟩ := Option.isSome_iff_exists.mp h4
    obtain ⟨id, hl⟩ := look_of hT
    refine wpAny_bind (wpAny_standAt (wpAny_bind (inPy (typeIs_of X2 h2 hT) hl ?_)))
    rw [subscripted_plain hs]
    refine wpAny_bind (wpAny_operating (wpM (k.run _ _ _ _ _ _ _ _ _ _ _ _ hA X2 h2 h3) fun y s3 h5 => ?_))
    exact wpAny_bind (wpAny_letTemporaryGo (wpAny_pure (h5.ev le fun _ x => x)))⟩
/-- an optional part of a slice -/
inductive PaR (C : Cx) (F : Fm) (env : Env) (Ψ φ : Store) (ρ : Str → Option Value) (vars : Vars) (Q : BS → Option Int → Prop) (v : Value) (s' : Shared) : Prop
  | intro (φ' : Store) (bs' : BS) (i : Option Int) (le : φ.Le φ') (X : St C F env Ψ φ' ρ vars bs' s') (h : IsPart v i) (q : Q bs' i)
structure EvP (C : Cx) (F : Fm) (vars : Vars) (bs : BS) (e : Option Expr) (Q : BS → Option Int → Prop) : Prop where
  run : ∀ A env Ψ φ ρ s, AOk F.n A → St C F env Ψ φ ρ vars bs s → wpAny C.M A (evalPart e env) (PaR C F env Ψ φ ρ vars Q) (fun _ _ => False) s
noncomputable def IntK (k : Int → Prop) : R → Prop
  | .val (.int i) => k i
  | _ => False
theorem IntK.get {k : Int → Prop} {r : R} (h : IntK k r) : ∃ i, r = .val (.int i) ∧ k i := by
  unfold IntK at h
  split at h
  · exact ⟨_, rfl, h⟩
  · exact h.elim
theorem EvP_none {Q : BS → Option Int → Prop} (h : Q bs none) : EvP C F vars bs none Q := ⟨fun A env Ψ φ ρ s hA X => by rw [evalPart_none]; exact wpAny_pure ⟨φ, bs, none, Store.Le.refl φ, X, .none, h⟩⟩
theorem EvP_some {e : Expr} {Q : BS → Option Int → Prop} (h : Ev C F vars bs e fun b r => IntK (fun i => Q b (some i)) r) : EvP C F vars bs (some e) Q := ⟨fun A env Ψ φ ρ s hA X => by
  rw [evalPart_some]
  refine wpM (h.run A env Ψ φ ρ s hA X) fun v s1 ⟨φ', b, r, le, X', h', k⟩ => ?_
  obtain ⟨i, rfl, k⟩ := k.get
  obtain ⟨_, rfl⟩ := Rep.int_inv h'
  exact ⟨φ', b, some i, le, X', .int _ _, k⟩⟩
noncomputable def SliceK (lo hi : Option Int) (r : R) (k : R → Prop) : Prop := match r with
  | .val (.bytes x) => x.length ≤ 16777216 ∧ k (.val (.bytes (cut lo hi x)))
  | r => match r.items with
    | some ds => ds.length ≤ 16777216 ∧ k (.own (cut lo hi ds))
    | none => False
theorem SliceK.get {lo hi : Option Int} {r : R} {k : R → Prop} (h : SliceK lo hi r k) : (∃ x, r = .val (.bytes x) ∧ x.length ≤ 16777216 ∧ k (.val (.bytes (cut lo hi x)))) ∨ ∃ ds, r.items = some ds ∧ ds.length ≤ 16777216 ∧ k (.own (cut lo hi ds)) := by
  unfold SliceK at h
  split at h
  · exact .inl ⟨_, rfl, h⟩
  · split at h
    · rename_i ds hi; exact .inr ⟨ds, hi, h⟩
    · exact h.elim
theorem items_ty {r : R} {ds : List D} (h : r.items = some ds) : seqTy r = some "list" := by
  unfold R.items at h
  split at h <;> first | rfl | cases h
theorem slice_own {A : Around} {env : Env} {Ψ φ : Store} {ρ : Str → Option Value} {s : Shared} {o vl vu : Value} {r : R} {ds : List D} {i j : Option Int} {q : Addr} {K : R → Prop} (X : St C F env Ψ φ ρ vars bs s) (hsl : s.heap.IsSliceOf q vl vu .none) (p1 : IsPart vl i) (p2 : IsPart vu j)
    (h : RV C env Ψ φ ρ vars s o r) (hi : r.items = some ds) (hz : ds.length ≤ 16777216) (hq : K (.own (cut i j ds))) : wpAny C.M A (getItem o (.ref q)) (OpR C F env Ψ φ ρ vars bs K) (fun _ _ => False) s := by
  obtain ⟨l, vs, n', rfl, h4, h5⟩ := RV.view X h hi
  have e := h5.length
  rw [Array.length_toList] at e
  refine wpAny_getItem_list_slice (IsListOf h4) hsl p1 p2 .none (by simp) ?_ (by rw [sizeLine_eq]; lia)
  rw [slicePick_cut]
  obtain ⟨X6, h6⟩ := X.newOwn (tk := s.toks) (fun b o e => Heap.get?_push_of_some _ e) get?_size (Heap.get?_push_size _ rfl) (h5.cut i j)
  exact ⟨φ, _, Store.Le.refl _, X6, h6, hq⟩
theorem slice_by {A : Around} {env : Env} {Ψ φ : Store} {ρ : Str → Option Value} {s : Shared} {o vl vu : Value} {x : List Int} {i j : Option Int} {q : Addr} {K : R → Prop} (X : St C F env Ψ φ ρ vars bs s) (hsl : s.heap.IsSliceOf q vl vu .none) (p1 : IsPart vl i) (p2 : IsPart vu j)
    (h : Rep φ C.β o (.bytes x)) (hz : x.length ≤ 16777216) (hq : K (.val (.bytes (cut i j x)))) : wpAny C.M A (getItem o (.ref q)) (OpR C F env Ψ φ ρ vars bs K) (fun _ _ => False) s := by
  obtain ⟨arr, t, rfl, e⟩ := h.bytes_inv
  have e1 := bInts_len arr
  rw [e] at e1
  refine PySem.getItem_meets (PySem.W.typeIs_bytes _ _ _) (by decide) PySem.W.FB.slot_bytes_getitem PySem.W.FB.entry_bytes_getitem (PySem.W.FB.args_bytes_getitem_2 _ _) (KBc.meets_slice2 arr t _ p1 p2) ⟨hsl, ?_, fun t' tk => ?_⟩
  · have := KBc.size_picked_le arr i j
    rw [sizeLine_eq]; lia
  · exact ⟨φ, .val (.bytes (cut i j x)), Store.Le.refl _, X.tick, Rep.bytes t' (KBc.ints_picked e i j), hq⟩
theorem Ev_slice {v : Expr} {lo hi : Option Expr} {p pos : Pos}
    (h : Ev C F vars bs v fun b1 r1 => EvP C F vars b1 lo fun b2 i => EvP C F vars b2 hi fun b3 j => SliceK i j r1.norm (Q b3)) : Ev C F vars bs (.Subscript v (.Slice lo hi none p) pos) Q :=
  ⟨fun A env Ψ φ ρ s hA X => by
    rw [eval_Subscript]
    refine wpAny_bind (wpM (one (K := fun b1 r1 => EvP C F vars b1 lo fun b2 i => EvP C F vars b2 hi fun b3 j => SliceK i j r1 (Q b3)) (F := F) (vars := vars) (bs := bs) (by exact h) hA X) fun o s1 ⟨φ1, b1, r1, le1, X1, h1, k1⟩ => wpAny_bind (wpAny_holding (wpAny_Slice ?_)))
    refine wpM (k1.run A env Ψ φ1 ρ s1 hA X1) fun vl s2 ⟨φ2, b2, i, le2, X2, p1, k2⟩ => ?_
    refine wpM (k2.run A env Ψ φ2 ρ s2 hA X2) fun vu s3 ⟨φ3, b3, j, le3, X3, p2, k3⟩ => ?_
    rw [evalPart_none]
    refine wpAny_pure ?_
    have X4 : St C F env Ψ φ3 ρ vars b3 { s3 with heap := s3.heap.push { cls := .type "slice", data := .fields #[vl, vu, .none] } } := X3.grow (tk := s3.toks) fun b o e => Heap.get?_push_of_some _ e
    have hsl := Heap.IsSliceOf.new s3.heap vl vu .none
    have h3 := h1.carry (s' := { s3 with heap := s3.heap.push { cls := .type "slice", data := .fields #[vl, vu, .none] } }) (le2.trans le3)
    have le : φ.Le φ3 := (le1.trans le2).trans le3
    generalize r1.norm = r at k3 h3
    obtain ⟨T, hT, hh⟩ : ∃ T, seqTy r = some T ∧ wpAny C.M A (getItem o (.ref s3.heap.objs.size)) (OpR C F env Ψ φ3 ρ vars b3 (Q b3)) (fun _ _ => False) { s3 with heap := s3.heap.push { cls := .type "slice", data := .fields #[vl, vu, .none] } } := by
      rcases k3.get with ⟨x, rfl, hz, hq⟩ | ⟨ds, hi, hz, hq⟩
      · exact ⟨_, rfl, slice_by X4 hsl p1 p2 h3 hz hq⟩
      · exact ⟨_, items_ty hi, slice_own X4 hsl p1 p2 h3 hi hz hq⟩
    obtain ⟨id, hl⟩ := look_of hT
    refine wpAny_bind (wpAny_standAt (wpAny_bind (inPy (typeIs_of X4 h3 hT) hl ?_)))
    refine wpAny_bind (wpAny_operating (wpM hh fun y s4 h5 => ?_))
    exact wpAny_bind (wpAny_letTemporaryGo (wpAny_pure (h5.ev le fun _ x => x)))⟩
end
end Mine
end
section
set_option maxRecDepth 100000
set_option linter.unusedVariables false
namespace Mine
open PySem PySem.W PySem.Calls PyProof.Rows PySem.Spec
section
variable {C : Cx} {F : Fm} {vars : Vars} {bs : BS} {Q : Vars → BS → Fl → Prop}
theorem Ex1.mono {st : Stmt} {Q' : Vars → BS → Fl → Prop} (h : Ex1 C F vars bs st Q) (hq : ∀ v b f, Q v b f → Q' v b f) : Ex1 C F vars bs st Q' := ⟨fun A env Ψ φ ρ s hA X => wpAny_mono (h.run A env Ψ φ ρ s hA X) (fun _ _ ⟨φ', ρ', v, b, r, h1, h2, h3, h4⟩ => ⟨φ', ρ', v, b, r, h1, h2, h3, hq _ _ _ h4⟩) fun _ _ x => x⟩
theorem Ex.mono {st : List Stmt} {Q' : Vars → BS → Fl → Prop} (h : Ex C F vars bs st Q) (hq : ∀ v b f, Q v b f → Q' v b f) : Ex C F vars bs st Q' := ⟨fun A env Ψ φ ρ s hA X => wpAny_mono (h.run A env Ψ φ ρ s hA X) (fun _ _ ⟨φ', ρ', v, b, r, h1, h2, h3, h4⟩ => ⟨φ', ρ', v, b, r, h1, h2, h3, hq _ _ _ h4⟩) fun _ _ x => x⟩
noncomputable def NextK (k : Vars → BS → Prop) (Q : Vars → BS → Fl → Prop) (v : Vars) (b : BS) : Fl → Prop
  | .next => k v b
  | f => Q v b f
theorem Ex_nil (h : Q vars bs .next) : Ex C F vars bs [] Q := ⟨fun A env Ψ φ ρ s hA X => wpAny_execs_nil ⟨φ, ρ, vars, bs, .next, Store.Le.refl φ, X, trivial, h⟩⟩
theorem Ex_cons {st : Stmt} {rest : List Stmt} (h : Ex1 C F vars bs st (NextK (fun v b => Ex C F v b rest Q) Q)) : Ex C F vars bs (st :: rest) Q :=
  ⟨fun A env Ψ φ ρ s hA X => wpAny_execs_cons (wpAny_mono (h.run A env Ψ φ ρ s hA X) (fun f s1 ⟨φ1, ρ1, v1, b1, fl, le1, X1, h1, k1⟩ => by
    cases f with
    | next =>
      cases fl with
      | next => exact wpAny_mono (k1.run A env Ψ φ1 ρ1 s1 hA X1) (fun _ _ ⟨φ2, ρ2, v2, b2, fl2, le2, X2, h2, k2⟩ => ⟨φ2, ρ2, v2, b2, fl2, le1.trans le2, X2, h2, k2⟩) fun _ _ x => x
      | _ => exact h1.elim
    | brk => cases fl <;> first | exact h1.elim | exact ⟨φ1, ρ1, v1, b1, _, le1, X1, h1, k1⟩
    | cont => cases fl <;> first | exact h1.elim | exact ⟨φ1, ρ1, v1, b1, _, le1, X1, h1, k1⟩
    | ret v => cases fl <;> first | exact h1.elim | exact ⟨φ1, ρ1, v1, b1, _, le1, X1, h1, k1⟩) fun _ _ x => x)⟩
theorem Ex1_ret {e : Expr} {pos : Pos} (h : Ev C F vars bs e fun b r => Q vars b (.ret r)) : Ex1 C F vars bs (.Return (some e) pos) Q :=
  ⟨fun A env Ψ φ ρ s hA X => wpAny_Return_some (wpAny_mono (h.run A env Ψ φ ρ s hA X) (fun v s1 ⟨φ1, b1, r, le, X1, h1, k⟩ => ⟨φ1, ρ, vars, b1, .ret r, le, X1, h1, k⟩) fun _ _ x => x)⟩
theorem Ex1_cont {pos : Pos} (h : Q vars bs .cont) : Ex1 C F vars bs (.Continue pos) Q := ⟨fun A env Ψ φ ρ s hA X => wpAny_Continue ⟨φ, ρ, vars, bs, .cont, Store.Le.refl φ, X, trivial, h⟩⟩
theorem Ex1_if {t : Expr} {body orelse : List Stmt} {pos : Pos} (h : Ts C F vars bs t fun b c => (c = true → Ex C F vars b body Q) ∧ (c = false → Ex C F vars b orelse Q)) : Ex1 C F vars bs (.If t body orelse pos) Q :=
  ⟨fun A env Ψ φ ρ s hA X => wpAny_If (wpAny_mono (h.run A env Ψ φ ρ s hA X) (fun c s1 ⟨φ1, b1, le, X1, k⟩ => by
    cases c with
    | true => exact wpAny_mono ((k.1 rfl).run A env Ψ φ1 ρ s1 hA X1) (fun _ _ ⟨φ2, ρ2, v2, b2, fl2, le2, X2, h2, k2⟩ => ⟨φ2, ρ2, v2, b2, fl2, le.trans le2, X2, h2, k2⟩) fun _ _ x => x
    | false => exact wpAny_mono ((k.2 rfl).run A env Ψ φ1 ρ s1 hA X1) (fun _ _ ⟨φ2, ρ2, v2, b2, fl2, le2, X2, h2, k2⟩ => ⟨φ2, ρ2, v2, b2, fl2, le.trans le2, X2, h2, k2⟩) fun _ _ x => x) fun _ _ x => x)⟩
/-- what may be put under a name -/
noncomputable def SlotOk (C : Cx) (env : Env) (Ψ φ : Store) (ρ : Str → Option Value) (vars : Vars) (s : Shared) (v : Value) : Slot → Prop
  | .val d => Rep φ C.β v d
  | .mu ds => RV C env Ψ φ ρ vars s v (.own ds)
theorem lookup_ne {x y : Str} {sl : Slot} {vars : Vars} (h : y ≠ x) : ((x, sl) :: vars).lookup y = vars.lookup y := by
  rw [List.lookup_cons]
  have : (y == x) = false := by simpa using h
  rw [this]
theorem lookup_self {x : Str} {sl : Slot} {vars : Vars} : ((x, sl) :: vars).lookup x = some sl := by
  rw [List.lookup_cons]
  have : (x == x) = true := by simp
  rw [this]
theorem store_fst {env : Env} {Ψ φ : Store} {ρ : Str → Option Value} {s : Shared} {x : Str} {v : Value} {sl : Slot} {h' : Heap} {tk : Nat} {b : Addr} (X : St C F env Ψ φ ρ vars bs s) (hs : SlotOk C env Ψ φ ρ vars s v sl)
    (hb : Heap.SameBut b s.heap h')
    (hns : ∃ m, h'.Ns env.locals m ∧ ∀ y u, (if y = x then some v else ρ y) = some u → F.sc.names.lookup y = some .local → m y = some u)
    (hcell : ∀ y u, (if y = x then some v else ρ y) = some u → F.sc.names.lookup y = some .cell ∨ F.sc.names.lookup y = some .free → ∃ c, env.cells.lookup y = some c ∧ h'.IsCell c (some u))
    (hown : ∀ y ∈ F.ow, ∃ c u, env.cells.lookup y = some c ∧ h'.IsCell c u ∧ φ c = none ∧ Ψ c = none ∧ c ≠ C.β ∧ ∀ z, z ≠ y → env.cells.lookup z ≠ some c)
    (hseq : ∀ a vs n, s.heap.get? a = some (listOf vs n) → a ≠ b) :
    FSt C F env Ψ φ (fun y => if y = x then some v else ρ y) ((x, sl) :: vars) { s with heap := h', toks := tk } := by
  refine ⟨X.F.sc, X.F.kind, X.F.glob, X.F.blt, hns, X.F.loc, hcell, hown, X.F.fr, ?_, ?_, ?_⟩
  · intro y d e
    by_cases q : y = x
    · subst q; rw [lookup_self] at e; cases e
      exact ⟨v, if_pos rfl, hs⟩
    · rw [lookup_ne q] at e
      obtain ⟨u, h1, h2⟩ := X.F.val y d e
      exact ⟨u, (if_neg q).trans h1, h2⟩
  · intro y ds e
    by_cases q : y = x
    · subst q; rw [lookup_self] at e; cases e
      obtain ⟨a, ⟨vs, n, h1, h2, h3, h4, h5, h6⟩, h7⟩ := hs
      exact ⟨a, vs, n, (if_pos rfl).trans (congrArg some h1), (hb.2 a (hseq _ _ _ h2)).trans h2, h3, h4, h5, h6⟩
    · rw [lookup_ne q] at e
      obtain ⟨a, vs, n, h1, h2, h3, h4⟩ := X.F.mu y ds e
      exact ⟨a, vs, n, (if_neg q).trans h1, (hb.2 a (hseq _ _ _ h2)).trans h2, h3, h4⟩
  · intro y z ds es e1 e2 hne
    have one : ∀ z es, z ≠ x → vars.lookup z = some (.mu es) → sl = .mu ds → (some v) ≠ ρ z := by
      rintro z es q e rfl
      obtain ⟨a, h1, h2⟩ := hs
      exact Ne.symm (h2 z es e)
    by_cases q : y = x
    · have q2 : z ≠ x := fun w => hne (q.trans w.symm)
      subst q; rw [lookup_self] at e1; cases e1
      rw [lookup_ne q2] at e2
      show (if y = y then _ else _) ≠ (if z = y then _ else _)
      rw [if_pos rfl, if_neg q2]
      obtain ⟨a, h1, h2⟩ := hs
      exact Ne.symm (h2 z es e2)
    · rw [lookup_ne q] at e1
      by_cases q2 : z = x
      · subst q2; rw [lookup_self] at e2; cases e2
        show (if y = z then _ else _) ≠ (if z = z then _ else _)
        rw [if_neg q, if_pos rfl]
        obtain ⟨a, h1, h2⟩ := hs
        exact h2 y ds e1
      · rw [lookup_ne q2] at e2
        show (if y = x then _ else _) ≠ (if z = x then _ else _)
        rw [if_neg q, if_neg q2]
        exact X.F.dis y z ds es e1 e2 hne
theorem store_at' {env : Env} {Ψ φ : Store} {ρ : Str → Option Value} {s : Shared} {A : Around} {x : Str} {v : Value} {sl : Slot} {E : Value → Shared → Prop} {P : Unit → Shared → Prop} (X : St C F env Ψ φ ρ vars bs s) (hs : SlotOk C env Ψ φ ρ vars s v sl) (hx : isLoc F x = true)
    (hP : ∀ s', St C F env Ψ φ (fun y => if y = x then some v else ρ y) ((x, sl) :: vars) bs s' → (∀ a vs n, s.heap.get? a = some (listOf vs n) → s'.heap.get? a = some (listOf vs n)) → P () s') : wpAny C.M A (storeName env x v) P E s := by
  have hkind : env.scope.kind = .function := by rw [X.F.sc]; exact X.F.kind
  have hko : ∀ y, env.kindOf y = F.sc.names.lookup y := fun y => by show env.scope.names.lookup y = _; rw [X.F.sc]
  unfold isLoc at hx
  obtain ⟨m, hns, hm⟩ := X.F.ns
  obtain ⟨oL, esL, epL, hL, hLd, _⟩ := id hns
  split at hx
  · rename_i e
    refine wpAny_storeName_local ((hko x).trans e) hns (fun h' hn' hb => hP _ ⟨X.G.upd hb.extBut X.F.loc.1 X.F.loc.2.1 X.F.loc.2.2, store_fst X hs hb ⟨_, hn', ?_⟩ ?_ ?_ ?_⟩ ?_) (by rw [hkind]; rfl)
    · intro y u e1 e2
      show (if y = x then _ else _) = _
      by_cases q : y = x
      · rw [if_pos q] at e1 ⊢; exact e1
      · rw [if_neg q] at e1 ⊢; exact hm y u e1 e2
    · intro y u e1 e2
      have q : y ≠ x := by rintro rfl; rw [e] at e2; rcases e2 with e2 | e2 <;> cases e2
      rw [if_neg q] at e1
      obtain ⟨c, h1, h2⟩ := X.F.cell y u e1 e2
      refine ⟨c, h1, h2.sameBut hb ?_⟩
      rintro rfl
      obtain ⟨o, h3, h4⟩ := h2
      rw [hL] at h3; cases h3; rw [hLd] at h4; cases h4
    · intro y hy
      obtain ⟨c, u, h1, h2, h3⟩ := X.F.own y hy
      refine ⟨c, u, h1, h2.sameBut hb ?_, h3⟩
      rintro rfl
      obtain ⟨o, h3, h4⟩ := h2
      rw [hL] at h3; cases h3; rw [hLd] at h4; cases h4
    · rintro a vs n h1 rfl
      rw [hL] at h1; cases h1; cases hLd
    · intro a vs n h1
      refine (hb.2 a ?_).trans h1
      rintro rfl
      rw [hL] at h1; cases h1; cases hLd
  · rename_i e
    have hmem : x ∈ F.ow := by simpa using hx
    obtain ⟨c, u, h1, h2, h3, h4, h5, h6⟩ := X.F.own x hmem
    obtain ⟨oc, hoc, hocd⟩ := id h2
    refine wpAny_storeName_cell hkind ((hko x).trans e) h1 h2 fun h' hn' hb => hP _ ?_ ?_
    case refine_2 =>
      intro a vs n h7
      refine (hb.2 a ?_).trans h7
      rintro rfl
      rw [hoc] at h7; cases h7; cases hocd
    have hcL : env.locals ≠ c := by
      intro q; rw [q, hoc] at hL; cases hL; rw [hocd] at hLd; cases hLd
    have base : St C F env Ψ φ (fun y => if y = x then some v else ρ y) ((x, sl) :: vars) bs { s with heap := h', toks := s.toks } := by
      refine ⟨X.G.upd hb.extBut h3 h4 h5, store_fst X hs hb ⟨m, hns.sameBut hb hcL, ?_⟩ ?_ ?_ ?_⟩
      · intro y w e1 e2
        have q : y ≠ x := by rintro rfl; rw [e] at e2; cases e2
        rw [if_neg q] at e1; exact hm y w e1 e2
      · intro y w e1 e2
        by_cases q : y = x
        · subst q; rw [if_pos rfl] at e1; cases e1; exact ⟨c, h1, hn'⟩
        · rw [if_neg q] at e1
          obtain ⟨c', h7, h8⟩ := X.F.cell y w e1 e2
          refine ⟨c', h7, h8.sameBut hb ?_⟩
          rintro rfl; exact h6 y q h7
      · intro y hy
        obtain ⟨c', w, h7, h8, h9⟩ := X.F.own y hy
        by_cases q : y = x
        · subst q; rw [h1] at h7; cases h7; exact ⟨c, _, h1, hn', h9⟩
        · refine ⟨c', w, h7, h8.sameBut hb ?_, h9⟩
          rintro rfl; exact h6 y q h7
      · rintro a vs n h7 rfl
        rw [hoc] at h7; cases h7; cases hocd
    exact base
  · cases hx
theorem store_at {env : Env} {Ψ φ : Store} {ρ : Str → Option Value} {s : Shared} {A : Around} {x : Str} {v : Value} {sl : Slot} {E : Value → Shared → Prop} {P : Unit → Shared → Prop} (X : St C F env Ψ φ ρ vars bs s) (hs : SlotOk C env Ψ φ ρ vars s v sl) (hx : isLoc F x = true)
    (hP : ∀ s', St C F env Ψ φ (fun y => if y = x then some v else ρ y) ((x, sl) :: vars) bs s' → P () s') : wpAny C.M A (storeName env x v) P E s := store_at' X hs hx fun s' X' _ => hP s' X'
theorem assign_name {env : Env} {Ψ φ : Store} {ρ : Str → Option Value} {s : Shared} {A : Around} {x : Str} {pos : Pos} {v : Value} {sl : Slot} {E : Value → Shared → Prop} {P : Unit → Shared → Prop} (X : St C F env Ψ φ ρ vars bs s) (hs : SlotOk C env Ψ φ ρ vars s v sl) (hx : isLoc F x = true)
    (hP : ∀ s', St C F env Ψ φ (fun y => if y = x then some v else ρ y) ((x, sl) :: vars) bs s' → P () s') : wpAny C.M A (assign (.Name x pos) env v) P E s := by
  rw [PySem.assign_Name]
  exact wpAny_bind (wpAny_standAt (wpAny_bindName (store_at X hs hx hP)))
noncomputable def isComp : Expr → Bool
  | .ListComp .. => true
  | .SetComp .. => true
  | .DictComp .. => true
  | _ => false
theorem swaps_false {value : Expr} {t : Expr} {line : Nat} {env : Env} (h : isComp value = false) : swapsWith value (some t) line env = pure false := by
  cases value <;> first | rfl | cases h
theorem swaps_none {e : Expr} {line : Nat} {env : Env} (h : isComp e = false) : swapsWith e none line env = pure false := by
  cases e <;> first | rfl | cases h
noncomputable def ValK (k : D → Prop) : R → Prop
  | .val d => k d
  | _ => False
noncomputable def OwnK (k : List D → Prop) : R → Prop
  | .own ds => k ds
  | _ => False
theorem ValK.get {k : D → Prop} {r : R} (h : ValK k r) : ∃ d, r = .val d ∧ k d := by
  unfold ValK at h
  split at h
  · exact ⟨_, rfl, h⟩
  · exact h.elim
theorem OwnK.get {k : List D → Prop} {r : R} (h : OwnK k r) : ∃ d, r = .own d ∧ k d := by
  unfold OwnK at h
  split at h
  · exact ⟨_, rfl, h⟩
  · exact h.elim
theorem Ex1_assign {x : Str} {p pos : Pos} {e : Expr} (h : Ev C F vars bs e fun b r => ValK (fun d => Q ((x, .val d) :: vars) b .next) r.norm) (hx : isLoc F x = true) (hc : isComp e = false) : Ex1 C F vars bs (.Assign [.Name x p] e pos) Q :=
  ⟨fun A env Ψ φ ρ s hA X => wpAny_Assign_Name (wpAny_mono (one (K := fun b r => ValK (fun d => Q ((x, .val d) :: vars) b .next) r) h hA X) (fun v s1 ⟨φ1, b1, r, le, X1, h1, k⟩ => by
    generalize r.norm = r at h1 k
    obtain ⟨d, rfl, k⟩ := k.get
    exact store_at X1 (sl := .val d) h1 hx fun s' X2 => ⟨φ1, _, _, b1, .next, le, X2, trivial, k⟩) fun _ _ x => x) (swaps_false hc)⟩
/-- the frame's own list -/
theorem Ex1_assign_mu {x : Str} {p pos : Pos} {e : Expr} (h : Ev C F vars bs e fun b r => OwnK (fun ds => Q ((x, .mu ds) :: vars) b .next) r) (hx : isLoc F x = true) (hc : isComp e = false) : Ex1 C F vars bs (.Assign [.Name x p] e pos) Q :=
  ⟨fun A env Ψ φ ρ s hA X => wpAny_Assign_Name (wpAny_mono (h.run A env Ψ φ ρ s hA X) (fun v s1 ⟨φ1, b1, r, le, X1, h1, k⟩ => by
    obtain ⟨ds, rfl, k⟩ := k.get
    exact store_at X1 (sl := .mu ds) h1 hx fun s' X2 => ⟨φ1, _, _, b1, .next, le, X2, trivial, k⟩) fun _ _ x => x) (swaps_false hc)⟩
theorem Ex1_aug {x : Str} {p pos : Pos} {e : Expr} {op : Operator} {d0 : D} (hv : vars.lookup x = some (.val d0)) (hk : isVar F.sc x = true)
    (h : Ev C F vars bs e fun b r => Op2 C (inplaceOp op) (.val d0) r.norm fun r' => ValK (fun d => Q ((x, .val d) :: vars) b .next) r'.norm) (hx : isLoc F x = true) : Ex1 C F vars bs (.AugAssign (.Name x p) op e pos) Q :=
  ⟨fun A env Ψ φ ρ s hA X => wpAny_AugAssign_Name (by
    obtain ⟨v0, hv0, hr0⟩ := X.F.val x d0 hv
    exact load_at X hv0 (wpAny_mono (one (K := fun b r => Op2 C (inplaceOp op) (.val d0) r fun r' => ValK (fun d => Q ((x, .val d) :: vars) b .next) r'.norm) h hA X) (fun v s1 ⟨φ1, b1, r, le, X1, h1, k⟩ =>
      wpAny_mono (k.run _ _ _ _ _ _ _ _ _ _ _ _ hA X1 (hr0.mono le) h1) (fun u s2 ⟨φ2, r2, le2, X2, h2, k2⟩ => by
        obtain ⟨φ3, le3, X3, h3⟩ := norm_step X2 h2
        generalize r2.norm = r2 at h3 k2
        obtain ⟨d, rfl, k2⟩ := k2.get
        exact store_at X3 (sl := .val d) h3 hx fun s' X4 => ⟨φ3, _, _, b1, .next, (le.trans le2).trans le3, X4, trivial, k2⟩) fun _ _ x => x) fun _ _ x => x) hk)⟩
end
end Mine
end
section
set_option maxRecDepth 100000
set_option linter.unusedVariables false
namespace Mine
open PySem PySem.W PySem.Calls PyProof.Rows PySem.Spec
section
variable {C : Cx} {F : Fm} {vars : Vars} {bs : BS}
theorem St.ext {env : Env} {Ψ φ : Store} {ρ : Str → Option Value} {s : Shared} {vars' : Vars} (X : St C F env Ψ φ ρ vars bs s) (h : ∀ x, vars'.lookup x = vars.lookup x) : St C F env Ψ φ ρ vars' bs s :=
  ⟨X.G, X.F.sc, X.F.kind, X.F.glob, X.F.blt, X.F.ns, X.F.loc, X.F.cell, X.F.own, X.F.fr, fun x d e => X.F.val x d (h x ▸ e), fun x ds e => X.F.mu x ds (h x ▸ e), fun x y ds es e1 e2 => X.F.dis x y ds es (h x ▸ e1) (h y ▸ e2)⟩
/-- fewer facts of the frame -/
theorem St.weaken {env : Env} {Ψ φ : Store} {ρ : Str → Option Value} {s : Shared} {vars' : Vars} (X : St C F env Ψ φ ρ vars bs s) (h : ∀ x sl, vars'.lookup x = some sl → vars.lookup x = some sl) : St C F env Ψ φ ρ vars' bs s :=
  ⟨X.G, X.F.sc, X.F.kind, X.F.glob, X.F.blt, X.F.ns, X.F.loc, X.F.cell, X.F.own, X.F.fr, fun x d e => X.F.val x d (h x _ e), fun x ds e => X.F.mu x ds (h x _ e), fun x y ds es e1 e2 => X.F.dis x y ds es (h x _ e1) (h y _ e2)⟩
theorem St.protect {env : Env} {Ψ φ : Store} {ρ : Str → Option Value} {s : Shared} (X : St C F env Ψ φ ρ vars bs s) {a : Addr} {o : Obj} (ha : s.heap.get? a = some o) (hφ : φ a = none) (hb : a ≠ C.β)
    (hl : a ≠ env.locals) (hc : ∀ x ∈ F.ow, env.cells.lookup x ≠ some a) (hm : ∀ x es, vars.lookup x = some (.mu es) → ρ x ≠ some (.ref a)) : St C F env (Ψ.put a o) φ ρ vars bs s := by
  have ne : ∀ b, b ≠ a → Ψ.put a o b = Ψ b := fun b q => by unfold Store.put; rw [if_neg q]
  refine ⟨⟨X.G.base, X.G.fro, ?_, ?_, X.G.bex, ?_, X.G.same⟩, ⟨X.F.sc, X.F.kind, X.F.glob, X.F.blt, X.F.ns, ?_, X.F.cell, ?_, ?_, X.F.val, ?_, X.F.dis⟩⟩
  · intro b o' e
    by_cases q : b = a
    · subst q; rw [Store.put_self] at e; cases e; exact ha
    · rw [ne b q] at e; exact X.G.pro b o' e
  · intro b o' e
    by_cases q : b = a
    · subst q; rw [hφ] at e; cases e
    · rw [ne b q]; exact X.G.sep b o' e
  · intro p e
    obtain ⟨h1, h2, h3⟩ := X.G.box p e
    exact ⟨h1, h2, by rw [ne _ (Ne.symm hb)]; exact h3⟩
  · exact ⟨X.F.loc.1, by rw [ne _ (Ne.symm hl)]; exact X.F.loc.2.1, X.F.loc.2.2⟩
  · intro x hx
    obtain ⟨c, v, h1, h2, h3, h4, h5, h6⟩ := X.F.own x hx
    exact ⟨c, v, h1, h2, h3, by rw [ne _ (fun q => hc x hx (q ▸ h1))]; exact h4, h5, h6⟩
  · intro x c e1 e2
    obtain ⟨o', e3⟩ := X.F.fr x c e1 e2
    by_cases q : c = a
    · subst q; exact ⟨o, Store.put_self ..⟩
    · exact ⟨o', (ne c q).trans e3⟩
  · intro x ds e
    obtain ⟨b, vs, n, h1, h2, h3, h4, h5, h6⟩ := X.F.mu x ds e
    exact ⟨b, vs, n, h1, h2, h3, h4, by rw [ne _ (fun q => hm x ds e (q ▸ h1))]; exact h5, h6⟩
theorem GSt.unprotect {Ψ Ψ' φ : Store} {s : Shared} (G : GSt C Ψ' φ bs s) (le : Ψ.Le Ψ') : GSt C Ψ φ bs s := by
  have un : ∀ b, Ψ' b = none → Ψ b = none := fun b e => by
    cases q : Ψ b with
    | none => rfl
    | some o => rw [le b o q] at e; cases e
  exact ⟨G.base, G.fro, fun b o e => G.pro b o (le b o e), fun b o e => un b (G.sep b o e), G.bex, fun p e => let ⟨h1, h2, h3⟩ := G.box p e; ⟨h1, h2, un _ h3⟩, G.same⟩
theorem St.unprotect {env : Env} {Ψ Ψ' φ : Store} {ρ : Str → Option Value} {s : Shared} (X : St C F env Ψ' φ ρ vars bs s) (le : Ψ.Le Ψ') (hfr : ∀ x c, env.cells.lookup x = some c → x ∉ F.ow → ∃ o, Ψ c = some o) : St C F env Ψ φ ρ vars bs s := by
  have un : ∀ b, Ψ' b = none → Ψ b = none := fun b e => by
    cases q : Ψ b with
    | none => rfl
    | some o => rw [le b o q] at e; cases e
  refine ⟨X.G.unprotect le, X.F.sc, X.F.kind, X.F.glob, X.F.blt, X.F.ns, ⟨X.F.loc.1, un _ X.F.loc.2.1, X.F.loc.2.2⟩, X.F.cell, ?_, hfr, X.F.val, ?_, X.F.dis⟩
  · intro x hx
    obtain ⟨c, v, h1, h2, h3, h4, h5⟩ := X.F.own x hx
    exact ⟨c, v, h1, h2, h3, un _ h4, h5⟩
  · intro x ds e
    obtain ⟨b, vs, n, h1, h2, h3, h4, h5, h6⟩ := X.F.mu x ds e
    exact ⟨b, vs, n, h1, h2, h3, h4, un _ h5, h6⟩
/-- results, the new lists among them apart -/
noncomputable def Dst (p q : Value × R) : Prop := ∀ ds es, p.2 = .own ds → q.2 = .own es → p.1 ≠ q.1
noncomputable def RVs (C : Cx) (env : Env) (Ψ φ : Store) (ρ : Str → Option Value) (vars : Vars) (s : Shared) (L : List (Value × R)) : Prop := (∀ p ∈ L, RV C env Ψ φ ρ vars s p.1 p.2) ∧ L.Pairwise Dst
inductive LsR (C : Cx) (F : Fm) (env : Env) (Ψ φ : Store) (ρ : Str → Option Value) (vars : Vars) (Q : BS → List R → Prop) (vs : List Value) (s' : Shared) : Prop
  | intro (φ' : Store) (bs' : BS) (L : List (Value × R)) (e : vs = L.map (·.1)) (le : φ.Le φ') (X : St C F env Ψ φ' ρ vars bs' s') (h : RVs C env Ψ φ' ρ vars s' L) (q : Q bs' (L.map (·.2)))
structure EvL (C : Cx) (F : Fm) (vars : Vars) (bs : BS) (es : List Expr) (Q : BS → List R → Prop) : Prop where
  run : ∀ A env Ψ φ ρ s pos, AOk F.n A → St C F env Ψ φ ρ vars bs s → wpAny C.M A (spliced (backTo pos (starEach es env))) (LsR C F env Ψ φ ρ vars Q) (fun _ _ => False) s
noncomputable def notStar : Expr → Bool
  | .Starred .. => false
  | _ => true
theorem starEach_plain {e : Expr} {rest : List Expr} {env : Env} (h : notStar e = true) : starEach (e :: rest) env = (false, eval e env) :: starEach rest env := by
  cases e <;> first | rfl | cases h
theorem RV.unprotect {env : Env} {Ψ Ψ' φ : Store} {ρ : Str → Option Value} {s : Shared} {v : Value} {r : R} (h : RV C env Ψ' φ ρ vars s v r) (le : Ψ.Le Ψ') : RV C env Ψ φ ρ vars s v r := by
  cases r with
  | val d => exact h
  | bor x ds => exact h
  | own ds =>
    obtain ⟨a, ⟨vs, n, h1, h2, h3, h4, h5, h6⟩, h7⟩ := h
    refine ⟨a, ⟨vs, n, h1, h2, h3, h4, ?_, h6⟩, h7⟩
    cases q : Ψ a with
    | none => rfl
    | some o => rw [le a o q] at h5; cases h5
theorem RVs.unprotect {env : Env} {Ψ Ψ' φ : Store} {ρ : Str → Option Value} {s : Shared} {L : List (Value × R)} (h : RVs C env Ψ' φ ρ vars s L) (le : Ψ.Le Ψ') : RVs C env Ψ φ ρ vars s L := ⟨fun p hp => (h.1 p hp).unprotect le, h.2⟩
theorem RV.mono' {env : Env} {Ψ φ φ' : Store} {ρ : Str → Option Value} {s s' : Shared} {v : Value} {r : R} (h : RV C env Ψ φ ρ vars s v r) (le : φ.Le φ') (ho : ∀ ds, r = .own ds → False) : RV C env Ψ φ' ρ vars s' v r := by
  cases r with
  | val d => exact Rep.mono le h
  | bor x ds => exact h
  | own ds => exact (ho ds rfl).elim
theorem EvL_nil {Q : BS → List R → Prop} (h : Q bs []) : EvL C F vars bs [] Q := ⟨fun A env Ψ φ ρ s pos hA X => wpAny_items_nil ⟨φ, bs, [], rfl, Store.Le.refl φ, X, ⟨fun _ h => (nomatch h), .nil⟩, h⟩⟩
theorem EvL_cons {e : Expr} {es : List Expr} {Q : BS → List R → Prop} (h : Ev C F vars bs e fun b r => EvL C F vars b es fun b' rs => Q b' (r :: rs)) (he : notStar e = true) : EvL C F vars bs (e :: es) Q :=
  ⟨fun A env Ψ φ ρ s pos hA X => wpAny_items_cons (wpAny_mono (h.run A env Ψ φ ρ s hA X) (fun v s1 ⟨φ1, b1, r, le1, X1, h1, k1⟩ => by
    cases r with
    | val d =>
      refine wpAny_mono (k1.run A env Ψ φ1 ρ s1 pos hA X1) (fun vs s2 ⟨φ2, b2, L, e, le2, X2, h2, k2⟩ => ?_) fun _ _ x => x
      exact ⟨φ2, b2, (v, .val d) :: L, by rw [e]; rfl, le1.trans le2, X2, ⟨List.forall_mem_cons.mpr ⟨h1.mono' le2 (fun _ q => by cases q), h2.1⟩, List.pairwise_cons.mpr ⟨fun _ _ _ _ q => (by cases q), h2.2⟩⟩, k2⟩
    | bor x ds =>
      refine wpAny_mono (k1.run A env Ψ φ1 ρ s1 pos hA X1) (fun vs s2 ⟨φ2, b2, L, e, le2, X2, h2, k2⟩ => ?_) fun _ _ x => x
      exact ⟨φ2, b2, (v, .bor x ds) :: L, by rw [e]; rfl, le1.trans le2, X2, ⟨List.forall_mem_cons.mpr ⟨h1.mono' le2 (fun _ q => by cases q), h2.1⟩, List.pairwise_cons.mpr ⟨fun _ _ _ _ q => (by cases q), h2.2⟩⟩, k2⟩
    | own ds =>
      obtain ⟨a, ⟨us, n, rfl, g1, g2, g3, g4, g5⟩, g6⟩ := h1
      have Y := X1.protect g1 g3 g5 (X1.ne_loc g1) (X1.ne_cell g1) g6
      have leΨ : Ψ.Le (Ψ.put a (listOf us n)) := Store.le_put g4
      refine wpAny_mono (k1.run A env _ φ1 ρ s1 pos hA Y) (fun vs s2 ⟨φ2, b2, L, e, le2, X2, h2, k2⟩ => ?_) fun _ _ x => x
      have hΨa : (Ψ.put a (listOf us n)) a = some (listOf us n) := Store.put_self ..
      have hφa : φ2 a = none := by
        cases q : φ2 a with
        | none => rfl
        | some o => rw [X2.G.sep a o q] at hΨa; cases hΨa
      have h0 : RV C env Ψ φ2 ρ vars s2 (.ref a) (.own ds) := ⟨a, ⟨us, n, rfl, X2.G.pro _ _ hΨa, g2.mono le2, hφa, g4, g5⟩, g6⟩
      refine ⟨φ2, b2, (.ref a, .own ds) :: L, by rw [e]; rfl, le1.trans le2, X2.unprotect leΨ X1.F.fr, ⟨List.forall_mem_cons.mpr ⟨h0, (h2.unprotect leΨ).1⟩, List.pairwise_cons.mpr ⟨fun p hp _ es _ q w => ?_, h2.2⟩⟩, k2⟩
      have h3 := h2.1 p hp
      rw [q] at h3
      obtain ⟨b, ⟨_, _, q1, _, _, _, q2, _⟩, _⟩ := h3
      rw [← w] at q1; cases q1; rw [hΨa] at q2; cases q2) fun _ _ x => x) (starEach_plain he)⟩
/-- frozen things, one behind the other -/
inductive DsR (C : Cx) (F : Fm) (env : Env) (Ψ φ : Store) (ρ : Str → Option Value) (vars : Vars) (Q : BS → List D → Prop) (vs : List Value) (s' : Shared) : Prop
  | intro (φ' : Store) (bs' : BS) (ds : List D) (le : φ.Le φ') (X : St C F env Ψ φ' ρ vars bs' s') (h : Reps φ' C.β vs ds) (q : Q bs' ds)
structure EvD (C : Cx) (F : Fm) (vars : Vars) (bs : BS) (es : List Expr) (Q : BS → List D → Prop) : Prop where
  run : ∀ A env Ψ φ ρ s pos, AOk F.n A → St C F env Ψ φ ρ vars bs s → wpAny C.M A (spliced (backTo pos (starEach es env))) (DsR C F env Ψ φ ρ vars Q) (fun _ _ => False) s
theorem EvD_nil {Q : BS → List D → Prop} (h : Q bs []) : EvD C F vars bs [] Q := ⟨fun A env Ψ φ ρ s pos hA X => wpAny_items_nil ⟨φ, bs, [], Store.Le.refl φ, X, .nil, h⟩⟩
theorem EvD_cons {e : Expr} {es : List Expr} {Q : BS → List D → Prop} (h : Ev C F vars bs e fun b r => ValK (fun d => EvD C F vars b es fun b' ds => Q b' (d :: ds)) r.norm) (he : notStar e = true) : EvD C F vars bs (e :: es) Q :=
  ⟨fun A env Ψ φ ρ s pos hA X => wpAny_items_cons (wpAny_mono (one (K := fun b r => ValK (fun d => EvD C F vars b es fun b' ds => Q b' (d :: ds)) r) h hA X) (fun v s1 ⟨φ1, b1, r, le1, X1, h1, k1⟩ => by
    generalize r.norm = r at h1 k1
    obtain ⟨d, rfl, k1⟩ := k1.get
    exact wpM (k1.run A env Ψ φ1 ρ s1 pos hA X1) fun vs s2 ⟨φ2, b2, ds, le2, X2, h2, k2⟩ => ⟨φ2, b2, _, le1.trans le2, X2, .cons (Rep.mono le2 h1) h2, k2⟩) fun _ _ x => x) (starEach_plain he)⟩
theorem Ev_tuple {es : List Expr} {k : Nat} {pos : Pos} {Q : BS → R → Prop} (h : EvD C F vars bs es fun b ds => ds.length ≤ 1000 ∧ Q b (.val (.tuple ds))) : Ev C F vars bs (.Tuple es k pos) Q :=
  ⟨fun A env Ψ φ ρ s hA X => wpAny_Tuple (wpAny_mono (h.run A env Ψ φ ρ s pos hA X) (fun vs s1 ⟨φ1, b1, ds, le1, X1, h1, hz, k1⟩ => by
    refine ⟨by rw [h1.length, sizeLine_eq]; omega, ?_⟩
    obtain ⟨φ2, le2, X2, h2⟩ := X1.newTup (tk := s1.toks) (fun b o e => Heap.get?_push_of_some _ e) get?_size (Heap.get?_push_size _ rfl) h1
    exact ⟨φ2, b1, .val _, le1.trans le2, X2, h2, k1⟩) fun _ _ x => x)⟩
theorem Ev_list {es : List Expr} {pos : Pos} {Q : BS → R → Prop} (h : EvD C F vars bs es fun b ds => ds.length ≤ 1000 ∧ Q b (.own ds)) : Ev C F vars bs (.List es pos) Q :=
  ⟨fun A env Ψ φ ρ s hA X => wpAny_List (wpAny_mono (h.run A env Ψ φ ρ s pos hA X) (fun vs s1 ⟨φ1, b1, ds, le1, X1, h1, hz, k1⟩ => by
    refine ⟨by rw [h1.length, sizeLine_eq]; omega, ?_⟩
    obtain ⟨X2, h2⟩ := X1.newOwn (tk := s1.toks) (vs := vs.toArray) (fun b o e => Heap.get?_push_of_some _ e) get?_size (Heap.get?_push_size _ rfl) (by simpa using h1)
    exact ⟨φ1, b1, _, le1, X2, h2, k1⟩) fun _ _ x => x)⟩
/-! ### names told by tuples -/
noncomputable def namesOf : List Expr → Option (List Str)
  | [] => some []
  | .Name x _ :: r => (namesOf r).map (x :: ·)
  | _ => none
theorem namesOf_cons {t : Expr} {r : List Expr} {xs : List Str} (h : namesOf (t :: r) = some xs) : ∃ x p ys, t = .Name x p ∧ namesOf r = some ys ∧ xs = x :: ys := by
  have key : (∃ x p, t = .Name x p) ∨ namesOf (t :: r) = none := by
    clear h
    cases t <;> first | exact .inr rfl | exact .inl ⟨_, _, rfl⟩
  rcases key with ⟨x, p, rfl⟩ | e
  · simp only [namesOf, Option.map_eq_some_iff] at h
    obtain ⟨ys, h1, h2⟩ := h
    exact ⟨x, p, ys, rfl, h1, h2.symm⟩
  · rw [e] at h; cases h
theorem assignEach_names {env : Env} : ∀ {ts : List Expr} {xs : List Str}, namesOf ts = some xs → (assignEach ts env).length = xs.length ∧ (assignEach ts env).findIdx? (·.1) = none
  | [], xs, h => by cases h; exact ⟨rfl, rfl⟩
  | t :: r, xs, h => by
    obtain ⟨x, p, ys, rfl, h1, rfl⟩ := namesOf_cons h
    obtain ⟨h2, h3⟩ := assignEach_names (env := env) h1
    refine ⟨by show (assignEach r env).length + 1 = _; rw [h2]; rfl, ?_⟩
    show ((false, assign (.Name x p) env) :: assignEach r env).findIdx? (·.1) = none
    rw [List.findIdx?_cons]; simp [h3]
/-- the slots that results take: a new list becomes the frame's own, or is frozen -/
inductive SlotsFor : List R → List Slot → Prop
  | nil : SlotsFor [] []
  | val {d : D} {rs : List R} {ss : List Slot} : SlotsFor rs ss → SlotsFor (.val d :: rs) (.val d :: ss)
  | own {ds : List D} {rs : List R} {ss : List Slot} : SlotsFor rs ss → SlotsFor (.own ds :: rs) (.mu ds :: ss)
theorem RV.stored {env : Env} {Ψ φ : Store} {ρ : Str → Option Value} {s s' : Shared} {v u : Value} {r : R} {x : Str} {sl : Slot} (h : RV C env Ψ φ ρ vars s v r) (hr : ∀ y es, r ≠ .bor y es)
    (hk : ∀ a vs n, s.heap.get? a = some (listOf vs n) → s'.heap.get? a = some (listOf vs n)) (hn : ∀ ds, r = .own ds → ∀ es, sl = .mu es → u ≠ v) : RV C env Ψ φ (fun y => if y = x then some u else ρ y) ((x, sl) :: vars) s' v r := by
  cases r with
  | val d => exact h
  | bor y es => exact (hr _ _ rfl).elim
  | own ds =>
    obtain ⟨a, ⟨vs, n, h1, h2, h3⟩, h4⟩ := h
    refine ⟨a, ⟨vs, n, h1, hk _ _ _ h2, h3⟩, fun y es e => ?_⟩
    by_cases q : y = x
    · subst q; rw [lookup_self] at e; cases e
      show (if y = y then _ else _) ≠ _
      rw [if_pos rfl]
      exact fun w => hn ds rfl es rfl (Option.some.inj w)
    · rw [lookup_ne q] at e
      show (if y = x then _ else _) ≠ _
      rw [if_neg q]
      exact h4 y es e
structure Itm where
  x : Str
  v : Value
  r : R
  sl : Slot
  g : Value → Sem Unit
noncomputable def SlotFor : R → Slot → Prop
  | .val d, .val e => d = e
  | .own ds, .mu es => ds = es
  | _, _ => False
noncomputable def Puts (C : Cx) (A : Around) (env : Env) (p : Itm) : Prop := ∀ v (P : Unit → Shared → Prop) (E : Value → Shared → Prop) s, wpAny C.M A (storeName env p.x v) P E s → wpAny C.M A (p.g v) P E s
theorem store_list {env : Env} {A : Around} {E : Value → Shared → Prop} {P : Unit → Shared → Prop} :
    ∀ (L : List Itm) (Ψ φ : Store) (ρ : Str → Option Value) (vars : Vars) (s : Shared), St C F env Ψ φ ρ vars bs s → RVs C env Ψ φ ρ vars s (L.map fun p => (p.v, p.r)) → (∀ p ∈ L, SlotFor p.r p.sl ∧ isLoc F p.x = true ∧ Puts C A env p) →
      (∀ ρ' s', St C F env Ψ φ ρ' (L.reverse.map (fun p => (p.x, p.sl)) ++ vars) bs s' → P () s') → wpAny C.M A (assignInOrder (L.map (·.g)) (L.map (·.v))) P E s
  | [], Ψ, φ, ρ, vars, s, X, _, _, hP => wpAny_pure (hP ρ s X)
  | p :: L, Ψ, φ, ρ, vars, s, X, hr, hs, hP => by
    show wpAny _ _ (do holding (L.map (·.v)) (p.g p.v); assignInOrder (L.map (·.g)) (L.map (·.v))) _ _ _
    obtain ⟨h1, h2, hg⟩ := hs p List.mem_cons_self
    have h3 := hr.1 (p.v, p.r) List.mem_cons_self
    have hso : SlotOk C env Ψ φ ρ vars s p.v p.sl := by
      revert h1 h3
      cases p.r <;> cases p.sl <;> intro h1 h3 <;> first | exact h1.elim | (cases h1; exact h3)
    refine wpAny_bind (wpAny_holding (hg _ _ _ _ (store_at' X hso h2 fun s' X' hk => ?_)))
    refine store_list L Ψ φ _ _ s' X' ⟨fun q hq => ?_, (List.pairwise_cons.mp hr.2).2⟩ (fun q hq => hs q (List.mem_cons_of_mem _ hq)) fun ρ' s'' X'' => hP ρ' s'' ?_
    · obtain ⟨q', hq', rfl⟩ := List.mem_map.mp hq
      refine (hr.1 _ (List.mem_cons_of_mem _ hq)).stored (fun y es e => ?_) hk fun ds e es e2 => ?_
      · have := (hs q' (List.mem_cons_of_mem _ hq')).1
        rw [show q'.r = .bor y es from e] at this
        exact this
      · have h4 : p.r = .own es := by
          rw [e2] at h1; revert h1; cases p.r <;> intro h1 <;> first | exact h1.elim | (cases h1; rfl)
        exact (List.pairwise_cons.mp hr.2).1 _ hq _ _ h4 e
    · rw [List.reverse_cons, List.map_append, List.append_assoc]
      exact X''
theorem filter_names {env : Env} {line : Nat} : ∀ {ts : List Expr} {xs : List Str}, namesOf ts = some xs →
    (ts.filterMap fun | .Name id pos => if (env.kindOf id == some .local && pos.line == line) = true then some id else none | _ => none).length = ts.length →
    (ts.filterMap fun | .Name id pos => if (env.kindOf id == some .local && pos.line == line) = true then some id else none | _ => none) = xs
  | [], xs, h, _ => by cases h; rfl
  | t :: r, xs, h, hl => by
    obtain ⟨x, p, ys, rfl, h1, rfl⟩ := namesOf_cons h
    rw [List.filterMap_cons] at hl ⊢
    have hle := List.length_filterMap_le (fun | .Name id pos => if (env.kindOf id == some .local && pos.line == line) = true then some id else none | _ => none : Expr → Option Str) r
    by_cases q : (env.kindOf x == some .local && p.line == line) = true
    · simp only [if_pos q, List.length_cons, Nat.add_right_cancel_iff] at hl ⊢
      rw [filter_names h1 hl]
    · simp only [if_neg q, List.length_cons] at hl
      omega
theorem swapped_cases {env : Env} {ts vs : List Expr} {k k' : Nat} {p p' : Pos} {xs : List Str} (hn : namesOf ts = some xs) (hc : vs.all (foldedForSure 8) = true ∨ vs.all (constantsAlone 8) = false) :
    swappedStores [.Tuple ts k p] (.Tuple vs k' p') env = pure none ∨ swappedStores [.Tuple ts k p] (.Tuple vs k' p') env = pure (some xs) := by
  unfold swappedStores
  simp only []
  split
  · exact .inl rfl
  split
  · exact .inl rfl
  split
  · exact .inl rfl
  · rename_i hlen
    split
    · exact .inl rfl
    · rename_i hf
      rcases hc with hc | hc
      · exact absurd hc hf
      · rw [if_neg (by rw [hc]; exact Bool.false_ne_true)]
        right
        congr 2
        refine filter_names hn ?_
        simp only [Bool.or_eq_true, bne_iff_ne, ne_eq, not_or, Decidable.not_not] at hlen
        exact hlen.1
theorem reverse_lookup {xs : List (Str × Slot)} : (xs.map (·.1)).Nodup → ∀ (x : Str) (r : Vars), (xs.reverse ++ r).lookup x = (xs ++ r).lookup x := by
  induction xs with
  | nil => intro _ x r; rfl
  | cons p xs ih =>
    intro hnd x r
    rw [List.map_cons, List.nodup_cons] at hnd
    rw [List.reverse_cons, List.append_assoc, ih hnd.2]
    obtain ⟨y, sl⟩ := p
    show (xs ++ ([(y, sl)] ++ r)).lookup x = ((y, sl) :: (xs ++ r)).lookup x
    rw [List.lookup_cons]
    cases hb : x == y with
    | true =>
      obtain rfl := beq_iff_eq.mp hb
      have key : ∀ l : Vars, x ∉ l.map (·.1) → (l ++ ([(x, sl)] ++ r)).lookup x = some sl := by
        intro l hl
        induction l with
        | nil => exact lookup_self
        | cons q l ih2 =>
          obtain ⟨z, s2⟩ := q
          rw [List.map_cons, List.mem_cons, not_or] at hl
          rw [List.cons_append, lookup_ne hl.1]
          exact ih2 hl.2
      exact key xs hnd.1
    | false =>
      have hne : x ≠ y := by simpa using hb
      have key : ∀ l : Vars, (l ++ ([(y, sl)] ++ r)).lookup x = (l ++ r).lookup x := by
        intro l
        induction l with
        | nil => exact lookup_ne hne
        | cons q l ih2 =>
          obtain ⟨z, s2⟩ := q
          show ((z, s2) :: (l ++ ([(y, sl)] ++ r))).lookup x = ((z, s2) :: (l ++ r)).lookup x
          rw [List.lookup_cons, List.lookup_cons, ih2]
      exact key xs
noncomputable def slotOf : R → Option Slot
  | .val d => some (.val d)
  | .own ds => some (.mu ds)
  | .bor _ _ => none
/-- what a row of results puts under a row of names -/
noncomputable def putsOf : List Str → List R → Option Vars
  | [], [] => some []
  | x :: xs, r :: rs => match slotOf r, putsOf xs rs with
    | some sl, some vs => some ((x, sl) :: vs)
    | _, _ => none
  | _, _ => none
theorem items_of {env : Env} {A : Around} {ts : List Expr} : ∀ {xs : List Str} {L : List (Value × R)} {nv : Vars} (ps : List (Value → Sem Unit)), ps.length = xs.length → (∀ (i : Nat) (x : Str) (g : Value → Sem Unit), xs[i]? = some x → ps[i]? = some g → ∀ v (P : Unit → Shared → Prop) (E : Value → Shared → Prop) s, wpAny C.M A (storeName env x v) P E s → wpAny C.M A (g v) P E s) →
    (∀ x ∈ xs, isLoc F x = true) → putsOf xs (L.map (·.2)) = some nv →
    ∃ I : List Itm, I.map (·.g) = ps ∧ I.map (·.v) = L.map (·.1) ∧ I.map (fun p => (p.v, p.r)) = L ∧ I.map (fun p => (p.x, p.sl)) = nv ∧ ∀ p ∈ I, SlotFor p.r p.sl ∧ isLoc F p.x = true ∧ Puts C A env p
  | [], [], nv, [], _, _, _, h => by cases h; exact ⟨[], rfl, rfl, rfl, rfl, fun _ h => nomatch h⟩
  | [], [], nv, _ :: _, hl, _, _, h => by cases hl
  | [], _ :: _, nv, _, _, _, _, h => by cases h
  | x :: xs, [], nv, _, _, _, _, h => by cases h
  | x :: xs, (v, r) :: L, nv, [], hl, _, _, _ => by cases hl
  | x :: xs, (v, r) :: L, nv, g :: ps, hl, hg, hx, h => by
    rw [List.map_cons] at h
    unfold putsOf at h
    split at h
    · rename_i sl nv' h1 h2
      cases h
      obtain ⟨I, e1, e2, e3, e4, e5⟩ := items_of (env := env) (A := A) (ts := ts) ps (by simpa using hl) (fun i y g' ey eg => hg (i + 1) y g' (by simpa using ey) (by simpa using eg)) (fun y hy => hx y (List.mem_cons_of_mem _ hy)) h2
      refine ⟨⟨x, v, r, sl, g⟩ :: I, by rw [List.map_cons, e1], by rw [List.map_cons, List.map_cons, e2], by rw [List.map_cons, e3], by rw [List.map_cons, e4], List.forall_mem_cons.mpr ⟨⟨?_, hx x List.mem_cons_self, hg 0 x g rfl rfl⟩, e5⟩⟩
      cases r with
      | val d => cases h1; exact rfl
      | own ds => cases h1; exact rfl
      | bor y ds => cases h1
    · cases h
theorem putsOf_names : ∀ {xs : List Str} {rs : List R} {nv : Vars}, putsOf xs rs = some nv → nv.map (·.1) = xs ∧ rs.length = xs.length
  | [], [], nv, h => by cases h; exact ⟨rfl, rfl⟩
  | [], _ :: _, nv, h => by cases h
  | _ :: _, [], nv, h => by cases h
  | x :: xs, r :: rs, nv, h => by
    unfold putsOf at h
    split at h
    · rename_i sl nv' h1 h2
      cases h
      obtain ⟨a, b⟩ := putsOf_names h2
      exact ⟨by rw [List.map_cons, a], by rw [List.length_cons, List.length_cons, b]⟩
    · cases h
theorem RVs.same {env : Env} {Ψ φ : Store} {ρ : Str → Option Value} {s s' : Shared} {L : List (Value × R)} (h : RVs C env Ψ φ ρ vars s L) (hk : ∀ a o, s.heap.get? a = some o → s'.heap.get? a = some o) : RVs C env Ψ φ ρ vars s' L := by
  refine ⟨fun p hp => ?_, h.2⟩
  have := h.1 p hp
  revert this
  cases p.2 with
  | val d => exact id
  | bor x ds => exact id
  | own ds => rintro ⟨a, ⟨vs, n, h1, h2, h3⟩, h4⟩; exact ⟨a, ⟨vs, n, h1, hk _ _ h2, h3⟩, h4⟩
theorem assigns_at {env : Env} : ∀ {ts : List Expr} {xs : List Str}, namesOf ts = some xs → ((assignEach ts env).map (·.2)).length = xs.length ∧ ∀ (i : Nat) (x : Str) (g : Value → Sem Unit), xs[i]? = some x → ((assignEach ts env).map (·.2))[i]? = some g → ∀ A v (P : Unit → Shared → Prop) (E : Value → Shared → Prop) s, wpAny C.M A (storeName env x v) P E s → wpAny C.M A (g v) P E s
  | [], xs, h => by cases h; exact ⟨rfl, fun i x g e => by simp at e⟩
  | t :: r, xs, h => by
    obtain ⟨x, p, ys, rfl, h1, rfl⟩ := namesOf_cons h
    obtain ⟨h2, h3⟩ := assigns_at (env := env) h1
    have e0 : (assignEach (.Name x p :: r) env).map (·.2) = assign (.Name x p) env :: (assignEach r env).map (·.2) := rfl
    rw [e0]
    refine ⟨by rw [List.length_cons, List.length_cons, h2], fun i y g e1 e2 => ?_⟩
    cases i with
    | zero =>
      simp only [List.getElem?_cons_zero, Option.some.injEq] at e1 e2
      subst e1 e2
      intro A v P E s h4
      rw [PySem.assign_Name]
      exact wpAny_bind (wpAny_standAt (wpAny_bindName h4))
    | succ i =>
      simp only [List.getElem?_cons_succ] at e1 e2
      exact h3 i y g e1 e2
theorem Ex1_assign_tup {ts vs : List Expr} {k k' : Nat} {p p' pos : Pos} {xs : List Str} {Q : Vars → BS → Fl → Prop} (hn : namesOf ts = some xs) (hc : vs.all (foldedForSure 8) = true ∨ vs.all (constantsAlone 8) = false) (hx : xs.all (isLoc F) = true) (hnd : xs.Nodup)
    (h : EvL C F vars bs vs fun b rs => ∃ nv, putsOf xs rs = some nv ∧ rs.length ≤ 1000 ∧ Q (nv ++ vars) b .next) : Ex1 C F vars bs (.Assign [.Tuple ts k p] (.Tuple vs k' p') pos) Q :=
  ⟨fun A env Ψ φ ρ s hA X => by
    rw [exec_Assign_arm]
    refine wpAny_bind (wpAny_standAt (wpAny_bind (wpAny_of_eq (a := false) rfl ?_)))
    simp only [Bool.false_eq_true, if_false]
    refine wpAny_bind (wpAny_Tuple (wpAny_mono (h.run A env Ψ φ ρ s p' hA X) (fun us s1 ⟨φ1, b1, L, e, le1, X1, hr, nv, h1, hz, hq⟩ => ?_) fun _ _ x => x))
    subst e
    refine ⟨by rw [List.length_map, sizeLine_eq]; rw [List.length_map] at hz; omega, ?_⟩
    have X2 : St C F env Ψ φ1 ρ vars b1 { s1 with heap := s1.heap.push (tupOf (L.map (·.1)).toArray 0) } := X1.grow (tk := s1.toks) fun b o e => Heap.get?_push_of_some _ e
    have hr2 : RVs C env Ψ φ1 ρ vars { s1 with heap := s1.heap.push (tupOf (L.map (·.1)).toArray 0) } L := hr.same fun b o e => Heap.get?_push_of_some _ e
    have hT : (s1.heap.push (tupOf (L.map (·.1)).toArray 0)).IsTuple s1.heap.objs.size (L.map (·.1)).toArray := IsTupOf (Heap.get?_push_size _ rfl)
    obtain ⟨hnames, hlen⟩ := putsOf_names h1
    have hlen' : L.length = xs.length := by rw [← hlen, List.length_map]
    have hxs : ∀ x ∈ xs, isLoc F x = true := List.all_eq_true.mp hx
    rcases swapped_cases (env := env) (k := k) (k' := k') (p := p) (p' := p') hn hc with e | e
    · refine wpAny_bind (wpAny_of_eq e ?_)
      show wpAny C.M A (do assignAll (.ref s1.heap.objs.size) [assign (.Tuple ts k p) env]; pure Flow.next) _ _ _
      refine wpAny_bind ?_
      show wpAny C.M A (assign (.Tuple ts k p) env (.ref s1.heap.objs.size)) _ _ _
      obtain ⟨a1, a2⟩ := assignEach_names (env := env) hn
      refine PySem.wpAny_assign_Tuple hA.1 hT (by rw [a1]; simp [hlen']) a2 fun h' hb => ?_
      have keep : ∀ b o, (s1.heap.push (tupOf (L.map (·.1)).toArray 0)).get? b = some o → h'.get? b = some o := fun b o e => hb b o (fun q => by subst q; exact absurd (Heap.lt_size e) (Nat.lt_irrefl _)) e
      obtain ⟨g1, g2⟩ := assigns_at (C := C) (env := env) hn
      obtain ⟨I, e1, e2, e3, e4, e5⟩ := items_of (C := C) (F := F) (env := env) (A := A) (ts := ts) _ g1 (fun i x g ex eg => g2 i x g ex eg A) hxs h1
      rw [show (L.map (·.1)).toArray.toList = I.map (·.v) from by rw [e2], ← e1]
      refine store_list I Ψ φ1 ρ vars _ (X2.grow (tk := s1.toks) keep) (by rw [e3]; exact hr2.same keep) e5 fun ρ' s' X' => ?_
      refine wpAny_pure ⟨φ1, ρ', nv ++ vars, b1, .next, le1, X'.ext fun x => ?_, trivial, hq⟩
      rw [← List.map_reverse.symm, e4] at X'
      rw [← List.map_reverse.symm, e4]
      exact (reverse_lookup (by rw [hnames]; exact hnd) x vars).symm
    · refine wpAny_bind (wpAny_of_eq e ?_)
      show wpAny C.M A (do rule "assign.swapped-stores"; let items ← unpackItems (.ref s1.heap.objs.size) xs.length none; assignInOrder (xs.reverse.map fun n => bindName env n) items.reverse; pure Flow.next) _ _ _
      refine wpAny_bind (wpAny_rule (wpAny_bind ?_))
      have := wpAny_unpackItems_tuple (prog := C.prog) (w := C.w) (s := { s1 with heap := s1.heap.push (tupOf (L.map (·.1)).toArray 0) }) (E := fun _ _ => False) (A := A) (items := (L.map (·.1)).toArray) hA.1 hT (Q := fun items s' => wpAny C.M A (do assignInOrder (xs.reverse.map fun n => bindName env n) items.reverse; pure Flow.next) (ExR C F env Ψ φ Q) (fun _ _ => False) s') ?_
      · rw [show (L.map (·.1)).toArray.size = xs.length from by simp [hlen']] at this
        exact this
      intro h' hb
      have keep : ∀ b o, (s1.heap.push (tupOf (L.map (·.1)).toArray 0)).get? b = some o → h'.get? b = some o := fun b o e => hb b o (fun q => by subst q; exact absurd (Heap.lt_size e) (Nat.lt_irrefl _)) e
      obtain ⟨I, e1, e2, e3, e4, e5⟩ := items_of (C := C) (F := F) (env := env) (A := A) (ts := ts) (xs.map fun n => bindName env n) (List.length_map ..) (fun i x g ex eg v P E s h4 => by
        rw [List.getElem?_map, ex] at eg; cases eg; exact wpAny_bindName h4) hxs h1
      refine wpAny_bind ?_
      rw [show (L.map (·.1)).toArray.toList.reverse = I.reverse.map (·.v) from by rw [List.map_reverse, e2], show (xs.reverse.map fun n => bindName env n) = I.reverse.map (·.g) from by rw [List.map_reverse, List.map_reverse, e1]]
      refine store_list I.reverse Ψ φ1 ρ vars _ (X2.grow (tk := s1.toks) keep) ?_ (fun p hp => e5 p (List.mem_reverse.mp hp)) fun ρ' s' X' => ?_
      · rw [List.map_reverse, e3]
        have h6 := hr2.same (s' := { s1 with heap := h', toks := s1.toks }) keep
        exact ⟨fun p hp => h6.1 p (List.mem_reverse.mp hp), List.pairwise_reverse.mpr (h6.2.imp fun {a b} q ds es e1 e2 => Ne.symm (q es ds e2 e1))⟩
      · rw [List.reverse_reverse, e4] at X'
        exact wpAny_pure ⟨φ1, ρ', nv ++ vars, b1, .next, le1, X', trivial, hq⟩⟩
end
end Mine
end
section
set_option maxRecDepth 100000
set_option linter.unusedVariables false
namespace Mine
open PySem PySem.W PySem.Calls PyProof.Rows PySem.Spec
section
variable {C : Cx} {F : Fm} {vars : Vars} {bs : BS} {Q : Vars → BS → Fl → Prop}
/-- what a target (a name, or a tuple of names) takes of a frozen thing -/
noncomputable def bindT : Expr → D → Option Vars
  | .Name x _, d => some [(x, .val d)]
  | .Tuple ts _ _, .tuple ds => match namesOf ts with
    | some xs => putsOf xs (ds.map R.val)
    | none => none
  | _, _ => none
noncomputable def tgtOk (F : Fm) : Expr → Bool
  | .Name x _ => isLoc F x
  | .Tuple ts _ _ => match namesOf ts with
    | some xs => xs.all (isLoc F) && decide xs.Nodup
    | none => false
  | _ => false
theorem reps_rvs {env : Env} {Ψ φ : Store} {ρ : Str → Option Value} {s : Shared} {vs : List Value} {ds : List D} (h : Reps φ C.β vs ds) : ∃ L : List (Value × R), L.map (·.1) = vs ∧ L.map (·.2) = ds.map R.val ∧ RVs C env Ψ φ ρ vars s L := by
  induction vs generalizing ds with
  | nil => cases h; exact ⟨[], rfl, rfl, ⟨fun _ h => (by cases h), List.Pairwise.nil⟩⟩
  | cons v vs ih =>
    cases h with
    | @cons _ _ d ds h1 h2 =>
      obtain ⟨L, e1, e2, e3, e4⟩ := ih h2
      exact ⟨(v, .val d) :: L, by rw [List.map_cons, e1], by rw [List.map_cons, List.map_cons, e2], ⟨List.forall_mem_cons.mpr ⟨h1, e3⟩, List.pairwise_cons.mpr ⟨fun _ _ _ _ q => (by cases q), e4⟩⟩⟩
theorem assign_tgt {env : Env} {Ψ φ : Store} {ρ : Str → Option Value} {s : Shared} {A : Around} {t : Expr} {v : Value} {d : D} {nv : Vars} {E : Value → Shared → Prop} {P : Unit → Shared → Prop} (hA : A.handled = none) (X : St C F env Ψ φ ρ vars bs s) (hv : Rep φ C.β v d) (ht : tgtOk F t = true) (hb : bindT t d = some nv)
    (hP : ∀ ρ' s', St C F env Ψ φ ρ' (nv ++ vars) bs s' → P () s') : wpAny C.M A (assign t env v) P E s := by
  unfold bindT at hb
  split at hb
  · cases hb
    exact assign_name X (sl := .val d) hv ht fun s' X' => hP _ s' X'
  · rename_i ts k p ds
    split at hb
    · rename_i xs hn
      unfold tgtOk at ht
      simp only [hn, Bool.and_eq_true, decide_eq_true_eq] at ht
      obtain ⟨a, vs, n, rfl, h1, h2⟩ := Rep.tuple_inv hv
      · skip
        have hT := IsTupOf (X.G.fro _ _ h1)
        obtain ⟨hnames, hlen⟩ := putsOf_names hb
        rw [List.length_map] at hlen
        obtain ⟨a1, a2⟩ := assignEach_names (env := env) hn
        have e0 := h2.length
        refine PySem.wpAny_assign_Tuple hA hT (by rw [a1]; simp; omega) a2 fun h' hbb => ?_
        have keep : ∀ b o, s.heap.get? b = some o → h'.get? b = some o := fun b o e => hbb b o (fun q => by subst q; exact absurd (Heap.lt_size e) (Nat.lt_irrefl _)) e
        obtain ⟨g1, g2⟩ := assigns_at (C := C) (env := env) hn
        obtain ⟨L, f1, f2, f3⟩ := reps_rvs (C := C) (vars := vars) (env := env) (Ψ := Ψ) (ρ := ρ) (s := s) h2
        obtain ⟨I, e1, e2, e3, e4, e5⟩ := items_of (C := C) (F := F) (env := env) (A := A) (ts := ts) (L := L) _ g1 (fun i x g ex eg => g2 i x g ex eg A) (List.all_eq_true.mp ht.1) (by rw [f2]; exact hb)
        rw [show vs.toArray.toList = I.map (·.v) from by rw [e2, f1], ← e1]
        refine store_list I Ψ φ ρ vars _ (X.grow (h := h') (tk := s.toks) keep) (by rw [e3]; exact f3.same keep) e5 fun ρ' s' X' => ?_
        refine hP ρ' s' (X'.ext fun x => ?_)
        rw [← List.map_reverse.symm, e4]
        exact (reverse_lookup (by rw [hnames]; exact ht.2) x vars).symm
    · cases hb
  · cases hb
noncomputable def notTup : Expr → Bool
  | .Tuple .. => false
  | _ => true
theorem stores_none {ts : List Expr} {k : Nat} {p : Pos} {e : Expr} {env : Env} (h : notTup e = true) : swappedStores [.Tuple ts k p] e env = pure none := by
  cases e <;> first | rfl | cases h
theorem Ex1_unpack {ts : List Expr} {k : Nat} {p pos : Pos} {e : Expr} (h : Ev C F vars bs e fun b r => ValK (fun d => ∃ nv, bindT (.Tuple ts k p) d = some nv ∧ Q (nv ++ vars) b .next) r.norm) (ht : tgtOk F (.Tuple ts k p) = true) (he : notTup e = true) (hc : isComp e = false) : Ex1 C F vars bs (.Assign [.Tuple ts k p] e pos) Q :=
  ⟨fun A env Ψ φ ρ s hA X => by
    refine wpAny_Assign_stores (wpAny_mono (one (K := fun b r => ValK (fun d => ∃ nv, bindT (.Tuple ts k p) d = some nv ∧ Q (nv ++ vars) b .next) r) h hA X) (fun v s1 ⟨φ1, b1, r, le, X1, h1, k1⟩ => ?_) fun _ _ x => x) (swaps_false (t := .Tuple ts k p) (line := pos.line) (env := env) hc) ?_
    · revert h1 k1
      generalize r.norm = r
      intro h1 k1
      cases r with
      | val d =>
        obtain ⟨nv, hb, hq⟩ := k1
        show wpAny C.M A (assign (.Tuple ts k p) env v) _ _ _
        exact assign_tgt hA.1 X1 h1 ht hb fun ρ' s' X' => ⟨φ1, ρ', _, b1, .next, le, X', trivial, hq⟩
      | _ => exact k1.elim
    · exact stores_none he⟩
/-- an own list is frozen: a step of the proof's, none of the program's -/
theorem Ex_freeze (x : Str) {ds : List D} {ss : List Stmt} (hx : vars.lookup x = some (.mu ds)) (h : Ex C F ((x, .val (.list ds)) :: vars) bs ss Q) : Ex C F vars bs ss Q :=
  ⟨fun A env Ψ φ ρ s hA X => by
    obtain ⟨a, vs, n, h1, h2, h3, h4, h5, h6⟩ := X.F.mu x ds hx
    obtain ⟨vs⟩ := vs
    have hw : St C F env Ψ (φ.put a (listOf vs.toArray n)) ρ ((x, .val (.list ds)) :: vars) bs s := by
      have le : φ.Le (φ.put a (listOf vs.toArray n)) := Store.le_put h4
      have ne : ∀ b, b ≠ a → φ.put a (listOf vs.toArray n) b = φ b := fun b q => by unfold Store.put; rw [if_neg q]
      refine ⟨X.G.freeze h2 h4 h5 h6, X.F.sc, X.F.kind, X.F.glob, X.F.blt, X.F.ns, ?_, X.F.cell, ?_, X.F.fr, ?_, ?_, ?_⟩
      · exact ⟨by rw [ne _ (Ne.symm (X.ne_loc h2))]; exact X.F.loc.1, X.F.loc.2⟩
      · intro y hy
        obtain ⟨c, v, g1, g2, g3, g4⟩ := X.F.own y hy
        exact ⟨c, v, g1, g2, by rw [ne _ (fun q => X.ne_cell h2 y hy (q ▸ g1))]; exact g3, g4⟩
      · intro y d e
        by_cases q : y = x
        · subst q; rw [lookup_self] at e; cases e
          exact ⟨_, h1, .list (Store.put_self ..) (h3.mono le)⟩
        · rw [lookup_ne q] at e
          obtain ⟨v, g1, g2⟩ := X.F.val y d e
          exact ⟨v, g1, g2.mono le⟩
      · intro y es e
        have q : y ≠ x := by rintro rfl; rw [lookup_self] at e; cases e
        rw [lookup_ne q] at e
        obtain ⟨b, us, m, g1, g2, g3, g4, g5⟩ := X.F.mu y es e
        refine ⟨b, us, m, g1, g2, g3.mono le, ?_, g5⟩
        rw [ne _ ?_]
        · exact g4
        · rintro rfl
          exact X.F.dis y x es ds e hx q (g1.trans h1.symm)
      · intro y z es fs e1 e2 hne
        have q : y ≠ x := by rintro rfl; rw [lookup_self] at e1; cases e1
        have q2 : z ≠ x := by rintro rfl; rw [lookup_self] at e2; cases e2
        rw [lookup_ne q] at e1; rw [lookup_ne q2] at e2
        exact X.F.dis y z es fs e1 e2 hne
    exact wpAny_mono (h.run A env Ψ _ ρ s hA hw) (fun _ _ => ExR.le (Store.le_put h4)) fun _ _ x => x⟩
theorem Ex_weak {vars' : Vars} {ss : List Stmt} (hv : ∀ x sl, vars'.lookup x = some sl → vars.lookup x = some sl) (h : Ex C F vars' bs ss Q) : Ex C F vars bs ss Q :=
  ⟨fun A env Ψ φ ρ s hA X => h.run A env Ψ φ ρ s hA (X.weaken hv)⟩
/-- one's own list is changed -/
theorem St.setOwn {env : Env} {Ψ φ : Store} {ρ : Str → Option Value} {s : Shared} {x : Str} {ds es : List D} {a : Addr} {vs ws : Array Value} {n m : Nat} {h : Heap} {tk : Nat} (X : St C F env Ψ φ ρ vars bs s) (hx : vars.lookup x = some (.mu ds)) (hρ : ρ x = some (.ref a)) (ha : s.heap.get? a = some (listOf vs n))
    (hk : ∀ b o, b ≠ a → s.heap.get? b = some o → h.get? b = some o) (hh : h.get? a = some (listOf ws m)) (hr : Reps φ C.β ws.toList es) : St C F env Ψ φ ρ ((x, .mu es) :: vars) bs { s with heap := h, toks := tk } := by
  obtain ⟨a', vs', n', h1, h2, h3, h4, h5, h6⟩ := X.F.mu x ds hx
  rw [hρ] at h1; cases h1
  refine ⟨X.G.upd hk h4 h5 h6, X.F.sc, X.F.kind, X.F.glob, X.F.blt, ?_, X.F.loc, ?_, ?_, X.F.fr, ?_, ?_, ?_⟩
  · obtain ⟨m, g1, g2⟩ := X.F.ns
    exact ⟨m, g1.extBut hk (Ne.symm (X.ne_loc ha)), g2⟩
  · intro y u e1 e2
    obtain ⟨c, g1, o, g2, g3⟩ := X.F.cell y u e1 e2
    refine ⟨c, g1, o, hk _ _ ?_ g2, g3⟩
    rintro rfl
    rw [ha] at g2; cases g2; cases g3
  · intro y hy
    obtain ⟨c, u, g1, ⟨o, g2, g3⟩, g4⟩ := X.F.own y hy
    refine ⟨c, u, g1, ⟨o, hk _ _ ?_ g2, g3⟩, g4⟩
    rintro rfl
    rw [ha] at g2; cases g2; cases g3
  · intro y d e
    have q : y ≠ x := by rintro rfl; rw [lookup_self] at e; cases e
    rw [lookup_ne q] at e
    exact X.F.val y d e
  · intro y fs e
    by_cases q : y = x
    · subst q; rw [lookup_self] at e; cases e
      exact ⟨a, ws, m, hρ, hh, hr, h4, h5, h6⟩
    · rw [lookup_ne q] at e
      obtain ⟨b, us, k, g1, g2, g3⟩ := X.F.mu y fs e
      refine ⟨b, us, k, g1, hk _ _ ?_ g2, g3⟩
      rintro rfl
      exact X.F.dis y x fs ds e hx q (g1.trans hρ.symm)
  · intro y z fs gs e1 e2 hne
    have key : ∀ y fs, ((x, Slot.mu es) :: vars).lookup y = some (.mu fs) → ∃ gs, vars.lookup y = some (.mu gs) := by
      intro y fs e
      by_cases q : y = x
      · subst q; exact ⟨ds, hx⟩
      · rw [lookup_ne q] at e; exact ⟨fs, e⟩
    obtain ⟨f1, e1⟩ := key y fs e1
    obtain ⟨f2, e2⟩ := key z gs e2
    exact X.F.dis y z f1 f2 e1 e2 hne
/-- x.append(e) -/
theorem Ex1_append {x : Str} {p0 p1 p2 p3 : Pos} {e : Expr} {ds : List D} (hx : vars.lookup x = some (.mu ds)) (hk : isVar F.sc x = true) (hz : ds.length ≤ 16777215) (hl : (p1.endLine == p2.line) = true)
    (h : Ev C F vars bs e fun b r => ValK (fun d => Q ((x, .mu (ds ++ [d])) :: vars) b .next) r.norm) (he : notStar e = true) (hi : ∀ env : Env, env.scope = F.sc → interactive env = false) :
    Ex1 C F vars bs (.Expr (.Call (.Attribute (.Name x p0) "append" p1) [e] [] p2) p3) Q :=
  ⟨fun A env Ψ φ ρ s hA X => by
    obtain ⟨a, vs, n, h1, h2, h3, h4, h5, h6⟩ := X.F.mu x ds hx
    refine wpAny_Expr (wpAny_Call_append (o := .Name x p0) rfl ?_ hl ?_ ?_) (hi env X.F.sc) rfl
    · rw [starEach_plain he]; rfl
    · rw [starEach_plain he]; rfl
    refine name_at X h1 ?_ hk
    refine ⟨a, vs, rfl, ⟨_, n, h2, rfl, rfl, rfl⟩, ?_⟩
    refine wpAny_mono (one (K := fun b r => ValK (fun d => Q ((x, .mu (ds ++ [d])) :: vars) b .next) r) h hA X) (fun v s1 ⟨φ1, b1, r, le, X1, g1, k1⟩ => ?_) fun _ _ x => x
    revert g1 k1
    generalize r.norm = r
    intro g1 k1
    cases r with
    | val d =>
      obtain ⟨a', vs', n', i1, i2, i3, _⟩ := X1.F.mu x ds hx
      rw [h1] at i1; cases i1
      have el := i3.length
      rw [Array.length_toList] at el
      refine wpAny_list_append_plain (hsz := by rw [sizeLine_eq]; omega) ⟨n', i2⟩ fun h' hp hb => ?_
      obtain ⟨m, hm⟩ := hp
      exact ⟨φ1, ρ, _, b1, .next, le, X1.setOwn (tk := s1.toks) hx h1 i2 hb.extBut hm (by rw [Array.toList_push]; exact i3.snoc g1), trivial, k1⟩
    | _ => exact k1.elim⟩
end
end Mine
end
section
set_option maxRecDepth 100000
set_option linter.unusedVariables false
namespace Mine
open PySem PySem.W PySem.Calls PyProof.Rows PySem.Spec
section
variable {C : Cx} {F : Fm} {vars : Vars} {bs : BS} {Q : Vars → BS → Fl → Prop}
noncomputable def TurnK (k : Vars → BS → Prop) (Q : Vars → BS → Fl → Prop) (v : Vars) (b : BS) : Fl → Prop
  | .next => k v b
  | .cont => k v b
  | .brk => Q v b .next
  | .ret r => Q v b (.ret r)
/-- an object of an iterator's own: a record, or a tuple -/
noncomputable def ItO (o : Obj) : Prop := (∃ vs, o.data = .fields vs) ∨ ∃ vs n, o = tupOf vs n
theorem ItO.notD {o : Obj} {P : Prop} (h : ItO o) (h1 : ∀ vs, o.data ≠ .fields vs) (h2 : ∀ vs n, o.data ≠ .seq vs n) : P := by
  rcases h with ⟨vs, e⟩ | ⟨vs, n, e⟩
  · exact (h1 vs e).elim
  · subst e; exact (h2 vs n rfl).elim
theorem ItO.notL {vs : Array Value} {n : Nat} {P : Prop} (h : ItO (listOf vs n)) : P := by
  rcases h with ⟨us, e⟩ | ⟨us, m, e⟩
  · cases e
  · have h : Value.type "list" = Value.type "tuple" := congrArg Obj.cls e
    exact absurd h (by decide)
noncomputable def IsFields (h : Heap) (a : Addr) : Prop := ∃ o, ∃ _ : Unit, h.get? a = some o ∧ ItO o
noncomputable def ItemRep (C : Cx) (φ : Store) (h h' : Heap) (v : Value) (d : D) : Prop :=
  Rep φ C.β v d ∨ ∃ T vs ds, v = .ref T ∧ d = .tuple ds ∧ h.get? T = none ∧ h'.get? T = some (tupOf vs.toArray 0) ∧ Reps φ C.β vs ds
structure Itr (C : Cx) (pv : List Addr) (I : Addr) (xs : List D) (tok : Expr → Prop) (J : Nat → Store → Heap → Prop) : Prop where
  frame : ∀ i φ φ' h h', J i φ h → φ.Le φ' → (∀ a ∈ pv, h'.get? a = h.get? a) → J i φ' h'
  item : ∀ i φ d A s target (E : Value → Shared → Prop) (P : Value → Shared → Prop), A.handled = none → tok target → J i φ s.heap → (∀ b o, φ b = some o → s.heap.get? b = some o) → (∀ a ∈ pv, φ a = none) → xs[i]? = some d →
    (∀ v h' tk, (∀ b o, b ∉ pv → s.heap.get? b = some o → h'.get? b = some o) → J (i + 1) φ h' → (∀ a ∈ pv, IsFields h' a) → ItemRep C φ s.heap h' v d → P v { s with heap := h', toks := tk }) →
    wpAny C.M A (pyNext (.ref I)) (fun r s1 => ∃ v, r = some v ∧ wpAny C.M A (letOwnedTupleGo target (.ref I) v) (fun _ s2 => P v s2) E s1) E s
  done : ∀ i φ A s (E : Value → Shared → Prop) (P : Shared → Prop), A.handled = none → J i φ s.heap → (∀ b o, φ b = some o → s.heap.get? b = some o) → (∀ a ∈ pv, φ a = none) → xs[i]? = none →
    (∀ h' tk, (∀ b o, b ∉ pv → s.heap.get? b = some o → h'.get? b = some o) → P { s with heap := h', toks := tk }) → wpAny C.M A (pyNext (.ref I)) (fun r s1 => r = none ∧ P s1) E s
  self : ∀ i φ A s (E : Value → Shared → Prop) (P : Value → Shared → Prop), J i φ s.heap → P (.ref I) s → wpAny C.M A (pyIter (.ref I)) P E s
noncomputable def Store.over (Ψ : Store) (pv : List Addr) (h : Heap) : Store := fun b => if b ∈ pv then h.get? b else Ψ b
structure PvOk (C : Cx) (Ψ φ : Store) (pv : List Addr) (h : Heap) : Prop where
  psi : ∀ a ∈ pv, Ψ a = none
  box : ∀ a ∈ pv, a ≠ C.β
  phi : ∀ a ∈ pv, φ a = none
  obj : ∀ a ∈ pv, IsFields h a
theorem St.stepPv {env : Env} {Ψ φ : Store} {ρ : Str → Option Value} {s : Shared} {pv : List Addr} {h : Heap} {tk : Nat} (X : St C F env Ψ φ ρ vars bs s) (V : PvOk C Ψ φ pv s.heap) (hk : ∀ b o, b ∉ pv → s.heap.get? b = some o → h.get? b = some o) :
    St C F env Ψ φ ρ vars bs { s with heap := h, toks := tk } := by
  have ne : ∀ b o, s.heap.get? b = some o → ¬ ItO o → h.get? b = some o := fun b o e hd => hk b o (fun m => by
    obtain ⟨o', vs, h1, h2⟩ := V.obj b m
    rw [e] at h1; cases h1; exact hd h2) e
  refine ⟨⟨X.G.base, fun b o e => hk b o (fun m => by rw [V.phi b m] at e; cases e) (X.G.fro b o e), fun b o e => hk b o (fun m => by rw [V.psi b m] at e; cases e) (X.G.pro b o e), X.G.sep, ?_, ?_, same_step X.G.same⟩,
    X.F.sc, X.F.kind, X.F.glob, X.F.blt, ?_, X.F.loc, ?_, ?_, X.F.fr, X.F.val, ?_, X.F.dis⟩
  · obtain ⟨o, e⟩ := X.G.bex
    exact ⟨o, hk _ _ (fun m => V.box _ m rfl) e⟩
  · intro p e
    obtain ⟨h1, h2⟩ := X.G.box p e
    exact ⟨h1.keep (fun o e => hk _ _ (fun m => V.box _ m rfl) e) (Store.Le.refl φ), h2⟩
  · obtain ⟨m, ⟨o, es, ep, h1, h2, h3⟩, h4⟩ := X.F.ns
    exact ⟨m, ⟨o, es, ep, ne _ _ h1 (fun q => q.notD (fun _ q => by rw [h2] at q; cases q) (fun _ _ q => by rw [h2] at q; cases q)), h2, h3⟩, h4⟩
  · intro x v e1 e2
    obtain ⟨c, h1, o, h2, h3⟩ := X.F.cell x v e1 e2
    exact ⟨c, h1, o, ne _ _ h2 (fun q => q.notD (fun _ q => by rw [h3] at q; cases q) (fun _ _ q => by rw [h3] at q; cases q)), h3⟩
  · intro x hx
    obtain ⟨c, v, h1, ⟨o, h2, h3⟩, h4⟩ := X.F.own x hx
    exact ⟨c, v, h1, ⟨o, ne _ _ h2 (fun q => q.notD (fun _ q => by rw [h3] at q; cases q) (fun _ _ q => by rw [h3] at q; cases q)), h3⟩, h4⟩
  · intro x ds e
    obtain ⟨a, vs, n, h1, h2, h3⟩ := X.F.mu x ds e
    exact ⟨a, vs, n, h1, ne _ _ h2 (fun q => q.notL), h3⟩
theorem St.over {env : Env} {Ψ φ : Store} {ρ : Str → Option Value} {s : Shared} {pv : List Addr} (X : St C F env Ψ φ ρ vars bs s) (V : PvOk C Ψ φ pv s.heap) : St C F env (Ψ.over pv s.heap) φ ρ vars bs s := by
  have ne : ∀ b, b ∉ pv → Ψ.over pv s.heap b = Ψ b := fun b q => by unfold Store.over; rw [if_neg q]
  have nin : ∀ b o, s.heap.get? b = some o → ¬ ItO o → b ∉ pv := fun b o e hd m => by
    obtain ⟨o', vs, h1, h2⟩ := V.obj b m
    rw [e] at h1; cases h1; exact hd h2
  refine ⟨⟨X.G.base, X.G.fro, ?_, ?_, X.G.bex, ?_, X.G.same⟩, X.F.sc, X.F.kind, X.F.glob, X.F.blt, X.F.ns, ?_, X.F.cell, ?_, ?_, X.F.val, ?_, X.F.dis⟩
  · intro b o e
    unfold Store.over at e
    split at e
    · exact e
    · exact X.G.pro b o e
  · intro b o e
    rw [ne b (fun m => by rw [V.phi b m] at e; cases e)]
    exact X.G.sep b o e
  · intro p e
    obtain ⟨h1, h2, h3⟩ := X.G.box p e
    exact ⟨h1, h2, by rw [ne _ (fun m => V.box _ m rfl)]; exact h3⟩
  · obtain ⟨m, ⟨o, es, ep, h1, h2, h3⟩, h4⟩ := X.F.ns
    exact ⟨X.F.loc.1, by rw [ne _ (nin _ _ h1 (fun q => q.notD (fun _ q => by rw [h2] at q; cases q) (fun _ _ q => by rw [h2] at q; cases q)))]; exact X.F.loc.2.1, X.F.loc.2.2⟩
  · intro x hx
    obtain ⟨c, v, h1, ⟨o, h2, h3⟩, h4, h5, h6⟩ := X.F.own x hx
    exact ⟨c, v, h1, ⟨o, h2, h3⟩, h4, by rw [ne _ (nin _ _ h2 (fun q => q.notD (fun _ q => by rw [h3] at q; cases q) (fun _ _ q => by rw [h3] at q; cases q)))]; exact h5, h6⟩
  · intro x c e1 e2
    obtain ⟨o, e3⟩ := X.F.fr x c e1 e2
    rw [ne c (fun m => by rw [V.psi c m] at e3; cases e3)]
    exact ⟨o, e3⟩
  · intro x ds e
    obtain ⟨a, vs, n, h1, h2, h3, h4, h5, h6⟩ := X.F.mu x ds e
    exact ⟨a, vs, n, h1, h2, h3, h4, by rw [ne _ (nin _ _ h2 (fun q => q.notL))]; exact h5, h6⟩
theorem le_over {Ψ φ : Store} {bs : BS} {s : Shared} {pv : List Addr} (G : GSt C Ψ φ bs s) : Ψ.Le (Ψ.over pv s.heap) := fun b o e => by
  unfold Store.over
  split
  · exact G.pro b o e
  · exact e
theorem over_mem {Ψ : Store} {pv : List Addr} {h : Heap} {a : Addr} (m : a ∈ pv) : Ψ.over pv h a = h.get? a := by unfold Store.over; rw [if_pos m]
/-- what an iterated thing yields -/
structure ItOk (C : Cx) (r : R) (xs : List D) : Prop where
  run : ∀ n F A env Ψ φ ρ vars bs s v, AOk n A → St C F env Ψ φ ρ vars bs s → RV C env Ψ φ ρ vars s v r →
    wpAny C.M A (pyIter v) (fun it s' => ∃ pv I J, it = .ref I ∧ (∃ h tk, s' = { s with heap := h, toks := tk } ∧ ∀ b o, s.heap.get? b = some o → h.get? b = some o) ∧ Itr C pv I xs (fun _ => True) J ∧ J 0 φ s'.heap ∧ ∀ a ∈ pv, s.heap.get? a = none ∧ IsFields s'.heap a) (fun _ _ => False) s
/-- an item of an iterator is bound -/
theorem item_bind {env : Env} {Ψ φ : Store} {ρ : Str → Option Value} {s : Shared} {A : Around} {t : Expr} {v : Value} {d : D} {nv : Vars} {E : Value → Shared → Prop} {P : Unit → Shared → Prop} {h0 : Heap} (hA : A.handled = none) (X : St C F env Ψ φ ρ vars bs s)
    (hk : ∀ b o, φ b = some o → h0.get? b = some o) (hk2 : ∀ b o, Ψ b = some o → ∃ o', h0.get? b = some o') (hk3 : ∃ o, h0.get? C.β = some o) (hk4 : ∀ x es, vars.lookup x = some (.mu es) → ∃ a o, ρ x = some (.ref a) ∧ h0.get? a = some o)
    (hv : ItemRep C φ h0 s.heap v d) (ht : tgtOk F t = true) (hb : bindT t d = some nv) (hP : ∀ φ' ρ' s', φ.Le φ' → St C F env Ψ φ' ρ' (nv ++ vars) bs s' → P () s') : wpAny C.M A (assign t env v) P E s := by
  rcases hv with hv | ⟨T, vs, ds, rfl, rfl, h1, h2, h3⟩
  · exact assign_tgt hA X hv ht hb fun ρ' s' X' => hP φ ρ' s' (Store.Le.refl φ) X'
  · have hφ : φ T = none := by
      cases e : φ T with
      | none => rfl
      | some o => rw [hk _ _ e] at h1; cases h1
    have hΨ : Ψ T = none := by
      cases e : Ψ T with
      | none => rfl
      | some o => obtain ⟨o', e'⟩ := hk2 _ _ e; rw [e'] at h1; cases h1
    have X2 := X.freeze h2 hφ hΨ (by rintro rfl; obtain ⟨o, e⟩ := hk3; rw [h1] at e; cases e) (X.ne_loc h2) (X.ne_cell h2) (fun x es e q => by
      obtain ⟨a, o, g1, g2⟩ := hk4 x es e
      rw [g1] at q; cases q; rw [h1] at g2; cases g2)
    exact assign_tgt hA X2 (.tuple (Store.put_self ..) (h3.mono (Store.le_put hφ))) ht hb fun ρ' s' X' => hP _ ρ' s' (Store.le_put hφ) X'
theorem forLoop2 {prog : Program} {w : World} {A : Around} {s : Shared} {R : Result → Shared → Prop} {target it body orelse env} (I : Nat → Shared → Prop)
    (turn : ∀ n s, I n s → wpAny (model prog w) A (pyNext it) (fun r s₁ => match r with
      | none => wpAny (model prog w) A (execs orelse env) (fun f s₃ => R (.ok f) s₃) (fun _ _ => False) s₁
      | some v => wpAny (model prog w) A (letOwnedTupleGo target it v) (fun _ s' => wpAny (model prog w) A (assign target env v) (fun _ s₂ => wpAny (model prog w) A (execs body env) (fun f s₃ => match f with
          | .next | .cont => ∃ m, m < n ∧ I m s₃
          | .brk => R (.ok .next) s₃
          | .ret v => R (.ok (.ret v)) s₃) (fun _ _ => False) s₂) (fun _ _ => False) s') (fun _ _ => False) s₁) (fun _ _ => False) s)
    (n : Nat) (h : I n s) : codeAny (model prog w) A (.forLoop target it body orelse env) R s := by
  refine codeAny_loop' rfl I (fun n s hI => ?_) n h
  show wpAny _ _ ((forTurn target it body orelse env).onRaise (fun x => do noteFrame x env; theTreesLotGoes x)) _ _ s
  refine wpAny_noted ?_
  simp only [forTurn]
  refine wpAny_bind (wpAny_standAt (wpAny_bind (wpAny_onRaise (wpAny_mono (turn n s hI) (fun r s₁ h₁ => ?_) fun _ _ h' => h'.elim))))
  cases r with
  | none => exact wpAny_pure (.inr ⟨rfl, codeAny_block (wpAny_mono h₁ (fun _ _ x => x) fun _ _ x => x.elim)⟩)
  | some v =>
    refine wpAny_bind (wpAny_mono h₁ (fun _ s' h' => ?_) fun _ _ x => x.elim)
    refine wpAny_bind (wpAny_mono h' (fun _ s₂ h₂ => wpAny_bind (wpAny_mono h₂ (fun f s₃ h₃ => ?_) fun _ _ h' => h'.elim)) fun _ _ h' => h'.elim)
    cases f with
    | next => exact wpAny_pure (.inl ⟨rfl, h₃⟩)
    | cont => exact wpAny_pure (.inl ⟨rfl, h₃⟩)
    | brk => exact wpAny_pure h₃
    | ret v => exact wpAny_pure h₃
noncomputable def notSetE : Expr → Bool
  | .Set .. => false
  | _ => true
theorem folded_plain {e : Expr} {env : Env} (h : notSetE e = true) (x : Value) : foldedSetIterable e env x = pure x := by
  cases e <;> first | rfl | cases h
theorem Itr.mono {pv : List Addr} {I : Addr} {xs : List D} {tok tok' : Expr → Prop} {J : Nat → Store → Heap → Prop} (h : ∀ t, tok' t → tok t) (It : Itr C pv I xs tok J) : Itr C pv I xs tok' J :=
  ⟨It.frame, fun i φ d A s t E P hA ht => It.item i φ d A s t E P hA (h t ht), It.done, It.self⟩
/-- what is walked through: told by its iterator -/
inductive SrcR (C : Cx) (F : Fm) (env : Env) (Ψ φ : Store) (ρ : Str → Option Value) (vars : Vars) (target : Expr) (K : BS → List D → Prop) : Value → Shared → Prop
  | intro (φ' : Store) (b : BS) (pv : List Addr) (I : Addr) (J : Nat → Store → Heap → Prop) (xs : List D) {s : Shared} (le : φ.Le φ') (X : St C F env Ψ φ' ρ vars b s) (It : Itr C pv I xs (fun t => t = target) J) (hJ : J 0 φ' s.heap)
    (hpv : ∀ a ∈ pv, φ' a = none ∧ Ψ a = none ∧ a ≠ C.β ∧ IsFields s.heap a) (k : K b xs) : SrcR C F env Ψ φ ρ vars target K (.ref I) s
structure Src (C : Cx) (F : Fm) (vars : Vars) (bs : BS) (target iter : Expr) (K : BS → List D → Prop) : Prop where
  run : ∀ A env Ψ φ ρ s, AOk F.n A → St C F env Ψ φ ρ vars bs s → wpAny C.M A (eval iter env) (fun x s1 => wpAny C.M A (pyIter x) (SrcR C F env Ψ φ ρ vars target K) (fun _ _ => False) s1) (fun _ _ => False) s
theorem Src_ev {target iter : Expr} {K : BS → List D → Prop} (hi : Ev C F vars bs iter fun b r => ∃ xs, ItOk C r.norm xs ∧ K b xs) : Src C F vars bs target iter K :=
  ⟨fun A env Ψ φ ρ s hA X => wpAny_mono (one (K := fun b r => ∃ xs, ItOk C r xs ∧ K b xs) hi hA X) (fun x s1 ⟨φ1, b1, r, le1, X1, h1, xs, k1, i1⟩ => by
    refine wpAny_mono (k1.run _ _ _ _ _ _ _ _ _ _ _ hA X1 h1) (fun it s2 ⟨pv, I, J, e, ⟨h, tk, e2, hk⟩, It, hJ, hpv⟩ => ?_) fun _ _ x => x
    subst e e2
    exact .intro φ1 b1 pv I J xs le1 (X1.grow hk) (It.mono fun _ _ => trivial) hJ (fun a m => ⟨(X1.G.new (hpv a m).1).1, (X1.G.new (hpv a m).1).2, X1.bne (hpv a m).1, (hpv a m).2⟩) i1) fun _ _ x => x⟩
inductive ForI (C : Cx) (F : Fm) (env : Env) (Ψ φ0 : Store) (pv : List Addr) (xs : List D) (J : Nat → Store → Heap → Prop) (Inv : List D → Vars → BS → Prop) (n : Nat) (s : Shared) : Prop
  | intro (i : Nat) (φ : Store) (ρ : Str → Option Value) (v : Vars) (b : BS) (hn : n + i = xs.length + 1) (hi : i ≤ xs.length) (le : φ0.Le φ) (X : St C F env Ψ φ ρ v b s) (hJ : J i φ s.heap) (V : PvOk C Ψ φ pv s.heap) (k : Inv (xs.drop i) v b) : ForI C F env Ψ φ0 pv xs J Inv n s
theorem Ex1_for_src {target iter : Expr} {body orelse : List Stmt} {pos : Pos} (Inv : List D → Vars → BS → Prop)
    (hi : Src C F vars bs target iter fun b xs => Inv xs vars b)
    (turn : ∀ x rest v b, Inv (x :: rest) v b → ∃ nv, bindT target x = some nv ∧ Ex C F (nv ++ v) b body (TurnK (fun v2 b2 => Inv rest v2 b2) Q))
    (done : ∀ v b, Inv [] v b → Ex C F v b orelse Q) (ht : tgtOk F target = true) (hs : notSetE iter = true) : Ex1 C F vars bs (.For target iter body orelse pos) Q :=
  ⟨fun A env Ψ φ ρ s hA X => by
    refine wpAny_For (wpAny_mono (hi.run A env Ψ φ ρ s hA X) (fun x s1 h1 => wpAny_mono h1 (fun it s2 h2 => ?_) fun _ _ x => x) fun _ _ x => x) (fun x => folded_plain hs x)
    obtain ⟨φ1, b1, pv, I, J, xs, le1, X2, It, hJ, hpv, i1⟩ := h2
    have cβ : ∀ a ∈ pv, a ≠ C.β := fun a m => (hpv a m).2.2.1
    have cΨ : ∀ a ∈ pv, Ψ a = none := fun a m => (hpv a m).2.1
    have cφ : ∀ a ∈ pv, φ1 a = none := fun a m => (hpv a m).1
    refine forLoop2 (ForI C F env Ψ φ pv xs J Inv) (fun n s3 hI => ?_) (xs.length + 1)
      ⟨0, φ1, ρ, vars, b1, rfl, Nat.zero_le _, le1, X2, hJ, ⟨cΨ, cβ, cφ, fun a m => (hpv a m).2.2.2⟩, by simpa using i1⟩
    obtain ⟨i, φ3, ρ3, v3, b3, hn, hi, le3, X3, J3, V3, i3⟩ := hI
    cases hx : xs[i]? with
    | none =>
      refine wpAny_mono (It.done i φ3 A s3 (fun _ _ => False) (fun s4 => St C F env Ψ φ3 ρ3 v3 b3 s4) hA.1 J3 X3.G.fro V3.phi hx fun h' tk' hk' => X3.stepPv V3 hk') (fun r s4 ⟨e, X4⟩ => ?_) fun _ _ x => x
      subst e
      have hd : xs.drop i = [] := by
        apply List.drop_eq_nil_of_le
        exact List.getElem?_eq_none_iff.mp hx
      rw [hd] at i3
      exact wpAny_mono ((done v3 b3 i3).run A env Ψ φ3 ρ3 s4 hA X4) (fun _ _ => ExR.le le3) fun _ _ x => x
    | some d =>
      have hlt : i < xs.length := (List.getElem?_eq_some_iff.mp hx).1
      have hd : xs.drop i = d :: xs.drop (i + 1) := by
        rw [List.drop_eq_getElem_cons hlt]
        congr 1
        exact (List.getElem?_eq_some_iff.mp hx).2
      rw [hd] at i3
      obtain ⟨nv, hb, hbody⟩ := turn d _ v3 b3 i3
      refine wpAny_mono (It.item i φ3 d A s3 target (fun _ _ => False) (fun v s4 => St C F env Ψ φ3 ρ3 v3 b3 s4 ∧ J (i + 1) φ3 s4.heap ∧ (∀ a ∈ pv, IsFields s4.heap a) ∧ ItemRep C φ3 s3.heap s4.heap v d) hA.1 rfl J3 X3.G.fro V3.phi hx fun v h' tk' hk' hJ' hp' hv' => ⟨X3.stepPv V3 hk', hJ', hp', hv'⟩) (fun r s4 ⟨v, e, h4⟩ => ?_) fun _ _ x => x
      subst e
      refine wpAny_mono h4 (fun _ s5 ⟨X5, J5, p5, v5⟩ => ?_) fun _ _ x => x
      have V5 : PvOk C Ψ φ3 pv s5.heap := ⟨V3.psi, V3.box, V3.phi, p5⟩
      have leΨ : Ψ.Le (Ψ.over pv s5.heap) := le_over X5.G
      refine item_bind (Ψ := Ψ.over pv s5.heap) hA.1 (X5.over V5) X3.G.fro ?_ X3.G.bex (fun x es e => ?_) v5 ht hb fun φ6 ρ6 s6 le6 X6 => ?_
      · intro b o e
        unfold Store.over at e
        split at e
        · rename_i m
          obtain ⟨o', _, g, _⟩ := V3.obj b m
          exact ⟨o', g⟩
        · exact ⟨o, X3.G.pro b o e⟩
      · obtain ⟨a, vs, n, g1, g2, _⟩ := X3.F.mu x es e
        exact ⟨a, _, g1, g2⟩
      refine wpAny_mono (hbody.run A env _ φ6 ρ6 s6 hA X6) (fun f s7 ⟨φ7, ρ7, v7, b7, fl, le7, X7, h7, k7⟩ => ?_) fun _ _ x => x
      have keepI : ∀ a ∈ pv, s7.heap.get? a = s5.heap.get? a := fun a m => by
        obtain ⟨o, vs, g1, g2⟩ := p5 a m
        rw [g1]; exact X7.G.pro a o (by rw [over_mem m]; exact g1)
      have phi7 : ∀ a ∈ pv, φ7 a = none := fun a m => by
        cases q : φ7 a with
        | none => rfl
        | some o =>
          obtain ⟨o', vs, g1, g2⟩ := p5 a m
          have := X7.G.sep a o q
          rw [over_mem m, g1] at this; cases this
      have X8 : St C F env Ψ φ7 ρ7 v7 b7 s7 := X7.unprotect leΨ X.F.fr
      have le8 : φ.Le φ7 := (le3.trans le6).trans le7
      have again : Inv (xs.drop (i + 1)) v7 b7 → ∃ m, m < n ∧ ForI C F env Ψ φ pv xs J Inv m s7 := fun hI =>
        ⟨xs.length - i, by omega, .intro (i + 1) φ7 ρ7 v7 b7 (by omega) hlt le8 X8 (It.frame _ _ _ _ _ J5 (le6.trans le7) keepI) ⟨V3.psi, V3.box, phi7, fun a m => by obtain ⟨o, vs, g1, g2⟩ := p5 a m; exact ⟨o, vs, (keepI a m).trans g1, g2⟩⟩ hI⟩
      cases f with
      | next => cases fl <;> first | exact h7.elim | exact again k7
      | cont => cases fl <;> first | exact h7.elim | exact again k7
      | brk => cases fl <;> first | exact h7.elim | exact ⟨φ7, ρ7, v7, b7, .next, le8, X8, trivial, k7⟩
      | ret v => cases fl <;> first | exact h7.elim | (rename_i r0; exact ⟨φ7, ρ7, v7, b7, .ret r0, le8, X8, RV.unprotect (env := env) (r := r0) h7 leΨ, k7⟩)⟩
end
end Mine
end
section
set_option maxRecDepth 100000
set_option linter.unusedVariables false
namespace Mine
open PySem PySem.W PySem.Calls PyProof.Rows PySem.Spec
section
variable {C : Cx} {F : Fm} {vars : Vars} {bs : BS}
theorem letGo_plain {A : Around} {s : Shared} {I : Addr} {T : String} {vs : Array Value} {t : Expr} {v : Value} {E : Value → Shared → Prop} {P : Unit → Shared → Prop} (ho : ∃ o, s.heap.get? I = some o ∧ o.cls = .type T ∧ o.data = .fields vs)
    (hT : ["enumerate", "zip", "dict_itemiterator", "dict_reverseitemiterator", "odict_iterator", "itertools.zip_longest", "itertools.pairwise"].contains T = false) (hP : P () s) : wpAny C.M A (letOwnedTupleGo t (.ref I) v) P E s := by
  obtain ⟨o, h1, h2, h3⟩ := ho
  have key : ∀ a, wpAny C.M A (do
      let o ← load I
      match o.cls, o.data with
      | .type n, .fields vs =>
        if ["enumerate", "zip", "dict_itemiterator", "dict_reverseitemiterator", "odict_iterator", "itertools.zip_longest", "itertools.pairwise"].contains n && vs[0]? == some (rawInt a) then do
          rule "for.unpacks-the-owned-tuple"
          updateField I 0 .none
      | _, _ => pure ()) P E s := by
    intro a
    refine wpAny_bind (wpAny_load h1 ?_)
    rw [h2, h3]
    simp only [hT, Bool.false_and, Bool.false_eq_true, if_false]
    exact wpAny_pure hP
  have key2 : wpAny C.M A (letOwnedTupleGo (.Tuple [] default ⟨0, 0, 0, 0⟩) (.ref I) v) P E s := by
    cases v with
    | ref a => exact key a
    | _ => exact wpAny_pure hP
  clear key
  cases t <;> first | exact key2 | exact wpAny_pure hP
theorem Itr_list {ax I : Addr} {vs : List Value} {xs : List D} {n : Nat} : Itr C [I] I xs (fun _ => True) (fun i φ h => h.IsListIter I ax i ∧ φ ax = some (listOf vs.toArray n) ∧ Reps φ C.β vs xs) where
  frame := fun i φ φ' h h' ⟨h1, h2, h3⟩ le hp => by
    obtain ⟨o, g1, g2⟩ := h1
    exact ⟨⟨o, (hp I (List.mem_singleton.mpr rfl)).trans g1, g2⟩, le _ _ h2, h3.mono le⟩
  item := fun i φ d A s target E P hA _ ⟨h1, h2, h3⟩ hfro hφ hx hP => by
    obtain ⟨v, hv, hr⟩ := h3.get hx
    refine wpAny_pyNext_list_item h1 (IsListOf (hfro _ _ h2)) (by simpa using hv) fun h' hit hb => ?_
    refine ⟨v, rfl, ?_⟩
    obtain ⟨o, g1, g2, g3⟩ := id hit
    refine letGo_plain ⟨o, g1, g2, g3⟩ (by decide) (hP v h' s.toks (fun b o m e => hb.extBut b o (fun q => m (List.mem_singleton.mpr q)) e) ⟨hit, h2, h3⟩ (fun a m => ?_) (.inl hr))
    obtain rfl := List.mem_singleton.mp m
    exact ⟨o, (), g1, .inl ⟨_, g3⟩⟩
  done := fun i φ A s E P hA ⟨h1, h2, h3⟩ hfro hφ hx hP => by
    refine wpAny_pyNext_list_end hA h1 (IsListOf (hfro _ _ h2)) ?_ fun h' hb => ⟨rfl, hP h' s.toks fun b o m e => hb b o (fun q => m (List.mem_singleton.mpr q)) e⟩
    have e1 := h3.length
    have e2 := List.getElem?_eq_none_iff.mp hx
    simp; lia
  self := fun i φ A s E P ⟨h1, _⟩ hP => wpAny_pyIter_listiter h1 hP
theorem ItOk_list {ds : List D} : ItOk C (.val (.list ds)) ds :=
  ⟨fun n F A env Ψ φ ρ vars bs s v hA X h => by
    obtain ⟨a, vs, n, rfl, h1, h2⟩ := Rep.list_inv h
    · skip
      refine wpAny_pyIter_list (IsListOf (X.G.fro _ _ h1)) ?_
      refine ⟨[s.heap.objs.size], s.heap.objs.size, _, rfl, ⟨_, s.toks, rfl, fun b o e => Heap.get?_push_of_some _ e⟩, Itr_list (ax := a) (vs := vs) (n := n), ⟨⟨_, Heap.get?_push_size _ rfl, rfl, rfl⟩, h1, h2⟩, fun b m => ?_⟩
      obtain rfl := List.mem_singleton.mp m
      exact ⟨get?_size, ⟨_, (), Heap.get?_push_size _ rfl, .inl ⟨_, rfl⟩⟩⟩⟩
noncomputable def rangeI (a b c : Int) : List Int := (List.range (Builtin.Range.rangeSize a b c).toNat).map fun (i : Nat) => a + (i : Int) * c
theorem Itr_range {I : Addr} {a c : Int} {n : Nat} : Itr C [I] I ((List.range n).map fun (i : Nat) => D.int (a + (i : Int) * c)) (fun _ => True) (fun i φ h => i ≤ n ∧ IsRangeIter h I (a + (i : Nat) * c) ((n : Int) - (i : Nat)) c) where
  frame := fun i φ φ' h h' ⟨h0, h1⟩ le hp => ⟨h0, (hp I (List.mem_singleton.mpr rfl)).trans h1⟩
  item := fun i φ d A s target E P hA _ ⟨h0, h1⟩ hfro hφ hx hP => by
    have hlt : i < n := by
      have := (List.getElem?_eq_some_iff.mp hx).1
      simpa using this
    have hd : d = D.int (a + (i : Int) * c) := by
      rw [List.getElem?_map, List.getElem?_range hlt] at hx
      simpa using hx.symm
    refine wpAny_pyNext_range_item h1 (by omega) fun h' hit hb => ?_
    refine ⟨_, rfl, ?_⟩
    refine letGo_plain (T := "range_iterator") (s := { s with heap := h', toks := s.toks + 1 }) ⟨_, hit, rfl, rfl⟩ (by decide) (hP _ h' (s.toks + 1) (fun b o m e => hb.extBut b o (fun q => m (List.mem_singleton.mpr q)) e) ⟨hlt, ?_⟩ (fun b m => ?_) (.inl (hd ▸ .int _ _)))
    · have e1 : a + ((i + 1 : Nat) : Int) * c = a + (i : Int) * c + c := by rw [Int.natCast_add, Int.add_mul]; simp [Int.add_assoc]
      have e2 : (n : Int) - ((i + 1 : Nat) : Int) = (n : Int) - (i : Int) - 1 := by lia
      rw [e1, e2]; exact hit
    · obtain rfl := List.mem_singleton.mp m
      exact ⟨_, (), hit, .inl ⟨_, rfl⟩⟩
  done := fun i φ A s E P hA ⟨h0, h1⟩ hfro hφ hx hP => by
    have e2 := List.getElem?_eq_none_iff.mp hx
    simp only [List.length_map, List.length_range] at e2
    exact wpAny_pyNext_range_end hA h1 (by omega) fun h' hb => ⟨rfl, hP h' s.toks fun b o m e => hb b o (fun q => m (List.mem_singleton.mpr q)) e⟩
  self := fun i φ A s E P ⟨_, h1⟩ hP => wpAny_pyIter_rangeiter h1 hP
theorem rangeSize_bounds {a b c : Int} (ha : -(2 ^ 40) ≤ a ∧ a ≤ 2 ^ 40) (hb : -(2 ^ 40) ≤ b ∧ b ≤ 2 ^ 40) (hc : c ≠ 0) : 0 ≤ Builtin.Range.rangeSize a b c ∧ Builtin.Range.rangeSize a b c ≤ 2 ^ 41 + 1 := by
  unfold Builtin.Range.rangeSize
  split
  · split
    · have h1 : 0 ≤ b - a - 1 := by (clear ha; lia)
      have h2 := Int.ediv_nonneg h1 (by lia : 0 ≤ c)
      have h3 := Int.ediv_le_self c h1
      omega
    · lia
  · split
    · have h1 : 0 ≤ a - b - 1 := by (clear ha; lia)
      have h2 := Int.ediv_nonneg h1 (by (clear hc; lia) : 0 ≤ -c)
      have h3 := Int.ediv_le_self (-c) h1
      omega
    · lia
theorem small_of {a b c : Int} (ha : -(2 ^ 40) ≤ a ∧ a ≤ 2 ^ 40) (hb : -(2 ^ 40) ≤ b ∧ b ≤ 2 ^ 40) (hc : -(2 ^ 40) ≤ c ∧ c ≤ 2 ^ 40) (h0 : c ≠ 0) : Builtin.Range.small a b c = true := by
  have h := rangeSize_bounds ha hb h0
  have fits : ∀ x : Int, -(2 ^ 50) ≤ x → x ≤ 2 ^ 50 → Builtin.Range.rangeFitsLong x = true := fun x h1 h2 => by
    unfold Builtin.Range.rangeFitsLong
    simp; lia
  unfold Builtin.Range.small
  simp only [Bool.and_eq_true, Bool.or_eq_true]
  refine ⟨⟨⟨⟨fits _ (by lia) (by lia), fits _ (by lia) (by lia)⟩, fits _ (by lia) (by lia)⟩, fits _ (by lia) (by lia)⟩, .inr ?_⟩
  split
  · exact fits _ (by lia) (by lia)
  · exact fits _ (by lia) (by (clear h0; lia))
theorem ItOk_range {a b c : Int} (ha : -(2 ^ 40) ≤ a ∧ a ≤ 2 ^ 40) (hb : -(2 ^ 40) ≤ b ∧ b ≤ 2 ^ 40) (hc : -(2 ^ 40) ≤ c ∧ c ≤ 2 ^ 40) (h0 : c ≠ 0) : ItOk C (.val (.range a b c)) ((rangeI a b c).map D.int) :=
  ⟨fun n F A env Ψ φ ρ vars bs s v hA X h => by
    obtain ⟨r, t, u, v, rfl, h1⟩ := Rep.range_inv h
    · skip
      refine wpAny_pyIter_range (X.G.fro _ _ h1) (small_of ha hb hc h0) ?_
      have e : (rangeI a b c).map D.int = (List.range (Builtin.Range.rangeSize a b c).toNat).map fun (i : Nat) => D.int (a + (i : Int) * c) := by unfold rangeI; rw [List.map_map]; rfl
      rw [e]
      have h2 := (rangeSize_bounds ha hb h0).1
      refine ⟨[s.heap.objs.size], s.heap.objs.size, _, rfl, ⟨_, s.toks, rfl, fun b o e => Heap.get?_push_of_some _ e⟩, Itr_range (a := a) (c := c), ⟨Nat.zero_le _, ?_⟩, fun b m => ?_⟩
      · have e3 : ((Builtin.Range.rangeSize a b c).toNat : Int) - ((0 : Nat) : Int) = Builtin.Range.rangeSize a b c := by lia
        have e4 : a + ((0 : Nat) : Int) * c = a := by simp
        rw [e3, e4]
        exact Heap.get?_push_size _ rfl
      · obtain rfl := List.mem_singleton.mp m
        exact ⟨get?_size, ⟨_, (), Heap.get?_push_size _ rfl, .inl ⟨_, rfl⟩⟩⟩⟩
end
end Mine
end
section
set_option maxRecDepth 100000
set_option linter.unusedVariables false
namespace Mine
open PySem PySem.W PySem.Calls PyProof.Rows PySem.Spec
section
variable {C : Cx} {F : Fm} {vars : Vars} {bs : BS}
/-- what the frame may write -/
noncomputable def Wr (F : Fm) (env : Env) (ρ : Str → Option Value) (vars : Vars) (a : Addr) : Prop :=
  a = env.locals ∨ (∃ x ∈ F.ow, env.cells.lookup x = some a) ∨ ∃ x ds, vars.lookup x = some (.mu ds) ∧ ρ x = some (.ref a)
open Classical in
noncomputable def prot (Ψ : Store) (W : Addr → Prop) (h : Heap) : Store := fun b => if W b then h.get? b else Ψ b
theorem prot_in {Ψ : Store} {W : Addr → Prop} {h : Heap} {b : Addr} (m : W b) : prot Ψ W h b = h.get? b := by unfold prot; rw [if_pos m]
theorem prot_out {Ψ : Store} {W : Addr → Prop} {h : Heap} {b : Addr} (m : ¬ W b) : prot Ψ W h b = Ψ b := by unfold prot; rw [if_neg m]
theorem le_prot {Ψ φ : Store} {s : Shared} {W : Addr → Prop} (G : GSt C Ψ φ bs s) : Ψ.Le (prot Ψ W s.heap) := fun b o e => by
  by_cases m : W b
  · rw [prot_in m]; exact G.pro b o e
  · rw [prot_out m]; exact e
theorem St.wr_phi {env : Env} {Ψ φ : Store} {ρ : Str → Option Value} {s : Shared} (X : St C F env Ψ φ ρ vars bs s) {a : Addr} (m : Wr F env ρ vars a) : φ a = none ∧ a ≠ C.β ∧ ∃ o, s.heap.get? a = some o := by
  rcases m with rfl | ⟨x, hx, e⟩ | ⟨x, ds, e, e2⟩
  · obtain ⟨m, ⟨o, es, ep, h1, _⟩, _⟩ := X.F.ns
    exact ⟨X.F.loc.1, X.F.loc.2.2, o, h1⟩
  · obtain ⟨c, v, h1, ⟨o, h2, _⟩, h3, h4, h5, _⟩ := X.F.own x hx
    rw [h1] at e; cases e
    exact ⟨h3, h5, o, h2⟩
  · obtain ⟨b, vs, n, h1, h2, h3, h4, h5, h6⟩ := X.F.mu x ds e
    rw [h1] at e2; cases e2
    exact ⟨h4, h6, _, h2⟩
theorem St.prot {env : Env} {Ψ φ : Store} {ρ : Str → Option Value} {s : Shared} (X : St C F env Ψ φ ρ vars bs s) : GSt C (prot Ψ (Wr F env ρ vars) s.heap) φ bs s := by
  refine ⟨X.G.base, X.G.fro, fun b o e => ?_, fun b o e => ?_, X.G.bex, fun p e => ?_, X.G.same⟩
  · by_cases m : Wr F env ρ vars b
    · rw [prot_in m] at e; exact e
    · rw [prot_out m] at e; exact X.G.pro b o e
  · rw [prot_out (fun m => by rw [(X.wr_phi m).1] at e; cases e)]
    exact X.G.sep b o e
  · obtain ⟨h1, h2, h3⟩ := X.G.box p e
    exact ⟨h1, h2, by rw [prot_out (fun m => (X.wr_phi m).2.1 rfl)]; exact h3⟩
theorem St.back {env : Env} {Ψ φ φ' : Store} {ρ : Str → Option Value} {bs' : BS} {s s' : Shared} (X : St C F env Ψ φ ρ vars bs s) (G : GSt C (Mine.prot Ψ (Wr F env ρ vars) s.heap) φ' bs' s') (le : φ.Le φ') : St C F env Ψ φ' ρ vars bs' s' := by
  have same : ∀ a o, Wr F env ρ vars a → s.heap.get? a = some o → s'.heap.get? a = some o ∧ φ' a = none := fun a o m e => by
    have h1 : Mine.prot Ψ (Wr F env ρ vars) s.heap a = some o := by rw [prot_in m]; exact e
    refine ⟨G.pro a o h1, ?_⟩
    cases q : φ' a with
    | none => rfl
    | some o' => rw [G.sep a o' q] at h1; cases h1
  refine ⟨G.unprotect (le_prot X.G), X.F.sc, X.F.kind, X.F.glob, X.F.blt, ?_, ?_, ?_, ?_, X.F.fr, ?_, ?_, X.F.dis⟩
  · obtain ⟨m, ⟨o, es, ep, h1, h2, h3⟩, h4⟩ := X.F.ns
    exact ⟨m, ⟨o, es, ep, (same _ o (.inl rfl) h1).1, h2, h3⟩, h4⟩
  · obtain ⟨m, ⟨o, es, ep, h1, h2, h3⟩, h4⟩ := X.F.ns
    exact ⟨(same _ o (.inl rfl) h1).2, X.F.loc.2⟩
  · intro x v e1 e2
    obtain ⟨c, h1, o, h2, h3⟩ := X.F.cell x v e1 e2
    refine ⟨c, h1, o, ?_, h3⟩
    by_cases hx : x ∈ F.ow
    · exact (same c o (.inr (.inl ⟨x, hx, h1⟩)) h2).1
    · obtain ⟨o', h4⟩ := X.F.fr x c h1 hx
      have h5 := X.G.pro c o' h4
      rw [h2] at h5; cases h5
      exact (G.unprotect (le_prot X.G)).pro c o h4
  · intro x hx
    obtain ⟨c, v, h1, ⟨o, h2, h3⟩, h4, h5⟩ := X.F.own x hx
    obtain ⟨g1, g2⟩ := same c o (.inr (.inl ⟨x, hx, h1⟩)) h2
    exact ⟨c, v, h1, ⟨o, g1, h3⟩, g2, h5⟩
  · intro x d e
    obtain ⟨v, h1, h2⟩ := X.F.val x d e
    exact ⟨v, h1, h2.mono le⟩
  · intro x ds e
    obtain ⟨a, vs, n, h1, h2, h3, h4, h5⟩ := X.F.mu x ds e
    obtain ⟨g1, g2⟩ := same a _ (.inr (.inr ⟨x, ds, e, h1⟩)) h2
    exact ⟨a, vs, n, h1, g1, h3.mono le, g2, h5⟩
/-- what came out of a call, in the caller's eyes -/
theorem OV.back {env : Env} {Ψ φ φ' : Store} {ρ : Str → Option Value} {bs' : BS} {s s' : Shared} {v : Value} {r : R} (X : St C F env Ψ φ ρ vars bs s) (G : GSt C (Mine.prot Ψ (Wr F env ρ vars) s.heap) φ' bs' s') (h : OV C (Mine.prot Ψ (Wr F env ρ vars) s.heap) φ' s' v r) :
    RV C env Ψ φ' ρ vars s' v r := by
  cases r with
  | val d => exact h
  | bor x ds => exact h.elim
  | own ds =>
    obtain ⟨a, vs, n, rfl, h1, h2, h3, h4, h5⟩ := h
    refine ⟨a, ⟨vs, n, rfl, h1, h2, h3, ?_, h5⟩, fun x es e q => ?_⟩
    · cases q : Ψ a with
      | none => rfl
      | some o => rw [le_prot X.G a o q] at h4; cases h4
    · obtain ⟨b, us, m, g1, g2, _⟩ := X.F.mu x es e
      rw [g1] at q; cases q
      rw [prot_in (.inr (.inr ⟨x, es, e, g1⟩)), g2] at h4; cases h4
/-- a global def of the text is called -/
structure IsFn (C : Cx) (x : Str) (f : Addr) (o : Obj) (fd : FuncData) : Prop where
  glob : C.mg x = some (.ref f)
  obj : C.H.get? f = some o
  data : o.data = .func fd
theorem evalArgs_at {A : Around} {pos : Pos} {fv : Value} {e : Expr} {es : List Expr} {env : Env} {Ψ φ : Store} {ρ : Str → Option Value} {s : Shared} {Q : BS → List D → Prop} {P : Args → Shared → Prop} (hA : AOk F.n A) (X : St C F env Ψ φ ρ vars bs s) (h : EvD C F vars bs (e :: es) Q) (hs : notStar e = true)
    (hP : ∀ vs s' φ' bs' ds, φ.Le φ' → St C F env Ψ φ' ρ vars bs' s' → Reps φ' C.β vs ds → Q bs' ds → P ⟨vs, []⟩ s') : wpAny C.M A (evalArgs fv true (backTo pos (starEach (e :: es) env)) []) P (fun _ _ => False) s := by
  have run := h.run A env Ψ φ ρ s pos hA X
  rw [starEach_plain hs] at run ⊢
  exact Calls.evalArgs_plain (wpAny_mono run (fun vs s' ⟨φ', bs', ds, le, X', hr, hq⟩ => hP vs s' φ' bs' ds le X' hr hq) fun _ _ x => x)
theorem global_at {A : Around} {x : Str} {pos : Pos} {v : Value} {env : Env} {Ψ φ : Store} {ρ : Str → Option Value} {s : Shared} {P : Value → Shared → Prop} {E : Value → Shared → Prop} (ok : C.Ok) (X : St C F env Ψ φ ρ vars bs s) (hf : C.mg x = some v) (hk : F.sc.names.lookup x = some .globalImplicit)
    (hd : (x == ("__debug__" : Str)) = false) (h : P v s) : wpAny C.M A (eval (.Name x pos) env) P E s :=
  Calls.Name_function_global (by rw [X.F.sc]; exact X.F.kind) (by show env.scope.names.lookup x = _; rw [X.F.sc]; exact hk)
    (Calls.loadGlobal_global (by rw [X.F.glob]; exact ok.g.keeps X.G.keepH) hf h) hd
theorem builtin_at {A : Around} {x : Str} {pos : Pos} {v : Value} {env : Env} {Ψ φ : Store} {ρ : Str → Option Value} {s : Shared} {P : Value → Shared → Prop} {E : Value → Shared → Prop} (ok : C.Ok) (X : St C F env Ψ φ ρ vars bs s) (hf : C.mg x = none) (hv : bootBuiltins x = some v) (hn : x ≠ "__name__") (hk : F.sc.names.lookup x = some .globalImplicit)
    (hd : (x == ("__debug__" : Str)) = false) (h : P v s) : wpAny C.M A (eval (.Name x pos) env) P E s :=
  Calls.Name_function_global (by rw [X.F.sc]; exact X.F.kind) (by show env.scope.names.lookup x = _; rw [X.F.sc]; exact hk)
    (Calls.loadGlobal_builtin (by rw [X.F.glob]; exact ok.g.keeps X.G.keepH) hf (by rw [X.F.blt]; exact ok.b.keeps X.G.keepH) ((ok.builtins x hn).trans hv) h) hd
theorem Ev_global {x : Str} {pos : Pos} {i : Int} {t : Tok} {Q : BS → R → Prop} (ok : C.Ok) (hf : C.mg x = some (.int i t)) (hk : F.sc.names.lookup x = some .globalImplicit) (hd : (x == ("__debug__" : Str)) = false) (h : Q bs (.val (.int i))) : Ev C F vars bs (.Name x pos) Q :=
  ⟨fun A env Ψ φ ρ s hA X => global_at ok X hf hk hd ⟨φ, bs, .val _, Store.Le.refl φ, X, Rep.int _ _, h⟩⟩
theorem call_in {A : Around} {f : Value} {vs : List Value} {ds : List D} {n : Nat} {env : Env} {Ψ φ : Store} {ρ : Str → Option Value} {s : Shared} {Q : BS → R → Prop} (hA : AOk F.n A) (hn : n ≤ F.n) (X : St C F env Ψ φ ρ vars bs s) (hr : Reps φ C.β vs ds) (h : Fn C n f ds bs Q) :
    wpAny C.M A (call f vs []) (EvR C F env Ψ φ ρ vars Q) (fun _ _ => False) s :=
  wpAny_mono (wpAny_ofRet (h.run A _ φ s vs (hA.le hn) X.prot hr)) (fun v s' ⟨φ', bs', r, le, G, o, q⟩ => ⟨φ', bs', r, le, X.back G le, o.back X G, q⟩) fun _ _ x => x
end
/-! ### the body of a def -/
noncomputable def cellNames (sc : Scope) : List Str := (sc.names.filter fun p => p.2 == .cell).map (·.1)
noncomputable def argVars (xs : List Str) (ds : List D) : Vars := (xs.zip ds).map fun p => (p.1, .val p.2)
theorem mem_cellsFrom : ∀ (names : List (Str × NameKind)) (n : Nat) (acc : List (Str × Addr)) (x : Str) (c : Addr), (x, c) ∈ cellsFrom n names acc → (x, c) ∈ acc ∨ (x, NameKind.cell) ∈ names
  | [], n, acc, x, c, h => .inl h
  | (y, k) :: r, n, acc, x, c, h => by
    unfold cellsFrom at h
    split at h
    · rename_i hk
      rcases mem_cellsFrom r (n + 1) _ x c h with h | h
      · rcases List.mem_cons.mp h with e | h
        · cases e
          have : k = .cell := by simpa using hk
          subst this
          exact .inr List.mem_cons_self
        · exact .inl h
      · exact .inr (List.mem_cons_of_mem _ h)
    · rcases mem_cellsFrom r n _ x c h with h | h
      · exact .inl h
      · exact .inr (List.mem_cons_of_mem _ h)
theorem bindL_other {kd : Str → Option NameKind} {x : Str} : ∀ {bs : List (Str × Value)} {m : Str → Option Value}, (∀ p ∈ bs, p.1 ≠ x) → bindL kd bs m x = m x
  | [], m, _ => rfl
  | (y, v) :: r, m, h => by
    unfold bindL
    rw [bindL_other (fun p hp => h p (List.mem_cons_of_mem _ hp))]
    split
    · exact if_neg (Ne.symm (h (y, v) List.mem_cons_self))
    · rfl
theorem bindC_other {kd : Str → Option NameKind} {x : Str} : ∀ {bs : List (Str × Value)} {m : Str → Option Value}, (∀ p ∈ bs, p.1 ≠ x) → bindC kd bs m x = m x
  | [], m, _ => rfl
  | (y, v) :: r, m, h => by
    unfold bindC
    rw [bindC_other (fun p hp => h p (List.mem_cons_of_mem _ hp))]
    split
    · rfl
    · exact if_neg (Ne.symm (h (y, v) List.mem_cons_self))
theorem arg_value {kd : Str → Option NameKind} {φ : Store} {β : Addr} {x : Str} {d : D} : ∀ {xs : List Str} {vs : List Value} {ds : List D} {m cm : Str → Option Value}, xs.Nodup → Reps φ β vs ds → (argVars xs ds).lookup x = some (.val d) →
    ∃ v, Rep φ β v d ∧ (kd x = some .local → bindL kd (xs.zip vs) m x = some v) ∧ (kd x ≠ some .local → bindC kd (xs.zip vs) cm x = some v)
  | [], _, _, m, cm, _, _, h => by cases h
  | y :: xs, _, _, m, cm, hnd, .nil, h => by cases h
  | y :: xs, v :: vs, d' :: ds, m, cm, hnd, .cons h1 h2, h => by
    rw [List.nodup_cons] at hnd
    have h' : ((y, Slot.val d') :: argVars xs ds).lookup x = some (.val d) := h
    have hno : ∀ p ∈ xs.zip vs, p.1 ≠ y := fun p hp e => hnd.1 (e ▸ (List.of_mem_zip hp).1)
    by_cases q : x = y
    · subst q
      rw [lookup_self] at h'; cases h'
      refine ⟨v, h1, fun k => ?_, fun k => ?_⟩
      · show bindL kd ((x, v) :: xs.zip vs) m x = _
        unfold bindL
        rw [bindL_other hno, if_pos k]; exact if_pos rfl
      · show bindC kd ((x, v) :: xs.zip vs) cm x = _
        unfold bindC
        rw [bindC_other hno, if_neg k]; exact if_pos rfl
    · rw [lookup_ne q] at h'
      obtain ⟨u, g1, g2, g3⟩ := arg_value (kd := kd) (m := if kd y = some .local then fun z => if z = y then some v else m z else m) (cm := if kd y = some .local then cm else fun z => if z = y then some v else cm z) hnd.2 h2 h'
      exact ⟨u, g1, g2, g3⟩
theorem argVars_mu {xs : List Str} {ds : List D} {x : Str} {es : List D} : (argVars xs ds).lookup x ≠ some (.mu es) := by
  intro h
  induction xs generalizing ds with
  | nil => cases h
  | cons y xs ih =>
    cases ds with
    | nil => cases h
    | cons d ds =>
      have h' : ((y, Slot.val d) :: argVars xs ds).lookup x = some (.mu es) := h
      by_cases q : x = y
      · subst q; rw [lookup_self] at h'; cases h'
      · rw [lookup_ne q] at h'; exact ih h'
noncomputable def RetK (Q : BS → R → Prop) (v : Vars) (b : BS) : Fl → Prop
  | .ret (.val d) => Q b (.val d)
  | .ret (.own ds) => Q b (.own ds)
  | .ret (.bor _ ds) => Q b (.own ds)
  | .next => Q b (.val .none)
  | _ => False
/-- the facts of a def that its contract wants -/
structure DefAt (C : Cx) (f : Addr) (xs : List Str) (body : List Stmt) (sc : Scope) : Prop where
  fd : ∃ o fd, C.H.get? f = some o ∧ o.data = .func fd ∧ fd.scope = sc ∧ fd.body = .stmts body ∧ fd.closure = [] ∧ fd.globals = mainGlobals ∧ fd.builtins = builtinsNs ∧ C.H.CodeRec fd.code fd.qualname ∧
    ∀ s vs, (∀ b o, C.H.get? b = some o → s.heap.get? b = some o) → vs.length = xs.length → BindsTo s fd ⟨vs, []⟩ (xs.zip vs)
noncomputable def scOk (sc : Scope) (xs : List Str) : Bool := decide xs.Nodup && (sc.kind == .function) && !sc.isCoroutine && !sc.isGenerator && (xs.all fun x => sc.names.lookup x == some .local || sc.names.lookup x == some .cell) && ((cellNames sc).all fun x => sc.names.lookup x == some .cell)
theorem Fn_def {C : Cx} {f : Addr} {xs : List Str} {body : List Stmt} {sc : Scope} {n : Nat} {ds : List D} {bs : BS} {Q : BS → R → Prop} (ok : C.Ok) (hf : DefAt C f xs body sc) (hl : ds.length = xs.length) (hsc : scOk sc xs = true)
    (h : Ex C ⟨sc, cellNames sc, n⟩ (argVars xs ds) bs body (RetK Q)) : Fn C (n + 1) (.ref f) ds bs Q :=
  ⟨fun A Ψ φ s vs hA G hr => by
    obtain ⟨o, fd, ho, hd, rfl, hbody, hclo, hglob, hblt, hcd, hbind⟩ := hf.fd
    simp only [scOk, Bool.and_eq_true, decide_eq_true_eq, Bool.not_eq_true', beq_iff_eq] at hsc
    obtain ⟨⟨⟨⟨⟨hnd, hkind⟩, hco⟩, hgen⟩, hx⟩, hcn⟩ := hsc
    have hx' : ∀ x ∈ xs, fd.scope.names.lookup x = some .local ∨ fd.scope.names.lookup x = some .cell := fun x m => by
      have := List.all_eq_true.mp hx x m
      simpa using this
    have hcn' : ∀ x ∈ cellNames fd.scope, fd.scope.names.lookup x = some .cell := fun x m => by
      have := List.all_eq_true.mp hcn x m
      simpa using this
    have hlen : vs.length = xs.length := by rw [hr.length, hl]
    refine codeAny_call_function hA.room (G.keepH _ _ ho) hd hco hgen hbody (hcd.keeps G.keepH) ?_
    refine hbind s vs G.keepH hlen _ _ _ _ ?_
    rw [hclo]
    refine wpAny_newFunctionEnv_cells hkind (fun p hp => ?_) fun env he s₁ I => ?_
    · have hm := (List.of_mem_zip hp).1
      rcases hx' _ hm with e | e
      · exact .inl e
      · exact .inr ⟨e, cellsFrom_some _ _ _ (.inl e)⟩
    have hlim : s₁.heap.NoLimit := (ok.nolimit.keeps G.keepH).keeps I.toInCall.keep
    refine ⟨hlim, codeAny_func ?_⟩
    have esc : env.scope = fd.scope := by rw [he]; rfl
    have ecell : env.cells = cellsFrom (s.heap.objs.size + 1) fd.scope.names [] := by rw [he]; rfl
    have hkd : ∀ x, env.kindOf x = fd.scope.names.lookup x := fun x => by show env.scope.names.lookup x = _; rw [esc]
    have newL : s.heap.get? env.locals = none := get?_ge I.toInCall.fresh
    have newC : ∀ x c, env.cells.lookup x = some c → s.heap.get? c = none := fun x c e => get?_ge (Nat.le_trans I.toInCall.fresh (Nat.le_of_lt (I.above x c (mem_of_lookup e))))
    have bne : ∀ a, s.heap.get? a = none → a ≠ C.β := by
      rintro a e rfl
      obtain ⟨o', e'⟩ := G.bex
      rw [e] at e'; cases e'
    have X : St C ⟨fd.scope, cellNames fd.scope, n⟩ env Ψ φ (fun x => if fd.scope.names.lookup x = some .local then bindL env.kindOf (xs.zip vs) (fun _ => none) x else if fd.scope.names.lookup x = some .cell then bindC env.kindOf (xs.zip vs) (fun _ => none) x else none) (argVars xs ds) bs s₁ := by
      obtain ⟨hh, tk, rfl⟩ := I.toInCall.same
      refine ⟨G.grow I.toInCall.keep, esc, hkind, by rw [he]; exact hglob, by rw [he]; exact hblt, ⟨_, I.toInCall.ns, fun x v e1 e2 => ?_⟩, ⟨(G.new newL).1, (G.new newL).2, bne _ newL⟩, fun x v e1 e2 => ?_, fun x m => ?_, fun x c e1 e2 => ?_, fun x d e => ?_, fun x es e => (argVars_mu e).elim, fun x y es _ e => (argVars_mu e).elim⟩
      · rw [if_pos e2] at e1; exact e1
      · rcases e2 with e2 | e2
        · have hne : ¬ fd.scope.names.lookup x = some .local := by rw [e2]; decide
          rw [if_neg hne, if_pos e2] at e1
          have hs : (env.cells.lookup x).isSome = true := by rw [ecell]; exact cellsFrom_some _ _ _ (.inl e2)
          obtain ⟨c, hc⟩ := Option.isSome_iff_exists.mp hs
          exact ⟨c, hc, e1 ▸ I.cell x c hc⟩
        · have hne : ¬ fd.scope.names.lookup x = some .local := by rw [e2]; decide
          have hne2 : ¬ fd.scope.names.lookup x = some .cell := by rw [e2]; decide
          rw [if_neg hne, if_neg hne2] at e1; cases e1
      · have e2 := hcn' x m
        have hs : (env.cells.lookup x).isSome = true := by rw [ecell]; exact cellsFrom_some _ _ _ (.inl e2)
        obtain ⟨c, hc⟩ := Option.isSome_iff_exists.mp hs
        refine ⟨c, _, hc, I.cell x c hc, (G.new (newC x c hc)).1, (G.new (newC x c hc)).2, bne _ (newC x c hc), fun y hy e => hy (name_of_addr I.apart (mem_of_lookup e) (mem_of_lookup hc))⟩
      · have hm := mem_of_lookup e1
        rw [ecell] at hm
        rcases mem_cellsFrom _ _ _ _ _ hm with h0 | h0
        · cases h0
        · exact (e2 (List.mem_map.mpr ⟨_, List.mem_filter.mpr ⟨h0, by simp⟩, rfl⟩)).elim
      · obtain ⟨v, g1, g2, g3⟩ := arg_value (kd := env.kindOf) (m := fun _ => none) (cm := fun _ => none) hnd hr e
        refine ⟨v, ?_, g1⟩
        have hxm : x ∈ xs := by
          have := mem_of_lookup e
          obtain ⟨p, hp, e3⟩ := List.mem_map.mp this
          cases e3
          exact (List.of_mem_zip hp).1
        rcases hx' x hxm with e3 | e3
        · simp only [e3, if_true]; exact g2 ((hkd x).trans e3)
        · have hne : ¬ fd.scope.names.lookup x = some .local := by rw [e3]; decide
          simp only [if_neg hne, e3, if_true]
          exact g3 (by rw [hkd x]; exact hne)
    refine wpAny_mono (h.run _ env Ψ φ _ s₁ hA.deeper X) (fun fl s' ⟨φ', ρ', vars', bs', f', le, X', hv, hq⟩ => ?_) fun _ _ x => x.elim
    have none' : Q bs' (.val .none) → FnR C Ψ φ Q .none s' := fun q => ⟨φ', bs', .val .none, le, X'.G, Rep.none, q⟩
    cases fl with
    | next => cases f' <;> first | exact hv.elim | exact none' hq
    | brk => cases f' <;> first | exact hv.elim | exact hq.elim
    | cont => cases f' <;> first | exact hv.elim | exact hq.elim
    | ret v =>
      cases f' with
      | ret r =>
        cases r with
        | val d => exact ⟨φ', bs', .val d, le, X'.G, hv, hq⟩
        | own es => exact ⟨φ', bs', .own es, le, X'.G, ⟨_, hv.choose_spec.1⟩, hq⟩
        | bor x es =>
          obtain ⟨h1, h2⟩ := hv
          obtain ⟨a, us, m, g1, g2⟩ := X'.F.mu x es h2
          rw [h1] at g1; cases g1
          exact ⟨φ', bs', .own es, le, X'.G, ⟨a, us, m, rfl, g2⟩, hq⟩
      | _ => exact hv.elim⟩
end Mine
end
section
set_option maxRecDepth 100000
set_option linter.unusedVariables false
namespace Mine
open PySem PySem.W PySem.Calls PyProof.Rows PySem.Spec
section
variable {C : Cx} {F : Fm} {vars : Vars} {bs : BS}
/-- a list of nobody's is changed -/
theorem St.updFree {env : Env} {Ψ φ : Store} {ρ : Str → Option Value} {s : Shared} {a : Addr} {vs : Array Value} {n : Nat} {h : Heap} {tk : Nat} (X : St C F env Ψ φ ρ vars bs s) (ha : s.heap.get? a = some (listOf vs n)) (hφ : φ a = none) (hΨ : Ψ a = none) (hb : a ≠ C.β)
    (hm : ∀ x es, vars.lookup x = some (.mu es) → ρ x ≠ some (.ref a)) (hk : ∀ b o, b ≠ a → s.heap.get? b = some o → h.get? b = some o) : St C F env Ψ φ ρ vars bs { s with heap := h, toks := tk } := by
  have ne : ∀ b o, s.heap.get? b = some o → (∀ vs n, o ≠ listOf vs n) → h.get? b = some o := fun b o e hd => hk b o (by rintro rfl; rw [ha] at e; cases e; exact hd _ _ rfl) e
  refine ⟨X.G.upd hk hφ hΨ hb, X.F.sc, X.F.kind, X.F.glob, X.F.blt, ?_, X.F.loc, ?_, ?_, X.F.fr, X.F.val, ?_, X.F.dis⟩
  · obtain ⟨m, ⟨o, es, ep, h1, h2, h3⟩, h4⟩ := X.F.ns
    exact ⟨m, ⟨o, es, ep, ne _ _ h1 (fun _ _ q => by subst q; cases h2), h2, h3⟩, h4⟩
  · intro x v e1 e2
    obtain ⟨c, h1, o, h2, h3⟩ := X.F.cell x v e1 e2
    exact ⟨c, h1, o, ne _ _ h2 (fun _ _ q => by subst q; cases h3), h3⟩
  · intro x hx
    obtain ⟨c, v, h1, ⟨o, h2, h3⟩, h4⟩ := X.F.own x hx
    exact ⟨c, v, h1, ⟨o, ne _ _ h2 (fun _ _ q => by subst q; cases h3), h3⟩, h4⟩
  · intro x ds e
    obtain ⟨b, us, m, h1, h2, h3⟩ := X.F.mu x ds e
    exact ⟨b, us, m, h1, hk _ _ (by rintro rfl; exact hm x ds e h1) h2, h3⟩
structure TsL (C : Cx) (F : Fm) (vars : Vars) (bs : BS) (es : List Expr) (Q : BS → Bool → Prop) : Prop where
  run : ∀ A env Ψ φ ρ s, AOk F.n A → St C F env Ψ φ ρ vars bs s → wpAny C.M A (forIn es true fun c r => if r = true then do let ok ← isTrue c env (eval c env); pure (ForInStep.yield ok) else pure (ForInStep.yield r)) (TsR C F env Ψ φ ρ vars Q) (fun _ _ => False) s
theorem TsL_nil {Q : BS → Bool → Prop} (h : Q bs true) : TsL C F vars bs [] Q := ⟨fun A env Ψ φ ρ s hA X => wpAny_tests_nil ⟨φ, bs, Store.Le.refl φ, X, h⟩⟩
theorem tests_false {A : Around} {env : Env} {s : Shared} {E : Value → Shared → Prop} {P : Bool → Shared → Prop} (h : P false s) : ∀ es : List Expr, wpAny C.M A (forIn es false fun c r => if r = true then do let ok ← isTrue c env (eval c env); pure (ForInStep.yield ok) else pure (ForInStep.yield r)) P E s
  | [] => wpAny_pure h
  | e :: es => by
    rw [List.forIn_cons]
    simp only [Bool.false_eq_true, if_false]
    exact wpAny_bind (wpAny_pure (tests_false h es))
theorem TsL_cons {e : Expr} {es : List Expr} {Q : BS → Bool → Prop} (h : Ts C F vars bs e fun b t => (t = true → TsL C F vars b es Q) ∧ (t = false → Q b false)) : TsL C F vars bs (e :: es) Q :=
  ⟨fun A env Ψ φ ρ s hA X => by
    rw [List.forIn_cons]
    simp only [if_true]
    refine wpAny_bind (wpAny_bind (wpAny_mono (h.run A env Ψ φ ρ s hA X) (fun t s1 ⟨φ1, b1, le1, X1, k1⟩ => wpAny_pure ?_) fun _ _ x => x))
    cases t with
    | true => exact wpAny_mono ((k1.1 rfl).run A env Ψ φ1 ρ s1 hA X1) (fun t s2 ⟨φ2, b2, le2, X2, k2⟩ => ⟨φ2, b2, le1.trans le2, X2, k2⟩) fun _ _ x => x
    | false => exact tests_false ⟨φ1, b1, le1, X1, k1.2 rfl⟩ es⟩
/-! ### the frame of a comprehension -/
noncomputable def relS (csc sc : Scope) : Scope := { csc with names := csc.names.map fun (n, k) => if (k == .free && sc.kind == .function && sc.names.lookup n == some .cell) then (n, .cell) else (n, k) }
noncomputable def compFm (csc : Scope) (F : Fm) : Fm := ⟨relS csc F.sc, cellNames csc, F.n⟩
noncomputable def isValAt (vars : Vars) (x : Str) : Bool := match vars.lookup x with
  | some (.val _) => true
  | _ => false
noncomputable def capt (csc : Scope) (vars : Vars) : Vars := vars.filter fun p => csc.names.lookup p.1 == some .free && isValAt vars p.1
theorem capt_lookup {csc : Scope} {vars : Vars} {x : Str} {sl : Slot} (h : (capt csc vars).lookup x = some sl) : csc.names.lookup x = some .free ∧ vars.lookup x = some sl ∧ ∃ d, sl = .val d := by
  unfold capt at h
  have key : ∀ (p : Str → Bool) (l : Vars), (l.filter fun q => p q.1).lookup x = some sl → p x = true ∧ l.lookup x = some sl := by
    intro p l
    induction l with
    | nil => intro h; cases h
    | cons q l ih =>
      obtain ⟨y, s2⟩ := q
      intro h
      rw [List.filter_cons] at h
      split at h
      · rename_i hp
        by_cases e : x = y
        · subst e; rw [lookup_self] at h; cases h; exact ⟨hp, lookup_self⟩
        · rw [lookup_ne e] at h ⊢; exact ih h
      · rename_i hp
        obtain ⟨h1, h2⟩ := ih h
        have e : x ≠ y := by rintro rfl; exact hp h1
        exact ⟨h1, by rw [lookup_ne e]; exact h2⟩
  obtain ⟨h1, h2⟩ := key (fun y => csc.names.lookup y == some .free && isValAt vars y) vars h
  simp only [Bool.and_eq_true, beq_iff_eq] at h1
  refine ⟨h1.1, h2, ?_⟩
  have := h1.2
  unfold isValAt at this
  rw [h2] at this
  cases sl with
  | val d => exact ⟨d, rfl⟩
  | mu ds => cases this
/-- the names that a comprehension takes from around are bound there, in cells -/
noncomputable def freeOk (csc : Scope) (F : Fm) (vars : Vars) : Bool := csc.names.all fun p => p.2 != .free || ((vars.lookup p.1).isSome && (F.sc.names.lookup p.1 == some .cell || F.sc.names.lookup p.1 == some .free) && csc.names.lookup p.1 == some .free)
noncomputable def cscOk (csc : Scope) : Bool := csc.kind == .function && (csc.names.all fun p => p.2 != .local || csc.names.lookup p.1 == some .local) && ((cellNames csc).all fun x => csc.names.lookup x == some .cell)
theorem closure_at {env : Env} {f : Str × NameKind → List (Str × Addr) → Sem (ForInStep (List (Str × Addr)))} (hf : ∀ n k cs, f (n, k) cs = if k == .free then (do let c ← cellOf env n; pure (.yield ((n, c) :: cs))) else pure (.yield cs)) :
    ∀ (names : List (Str × NameKind)) (acc : List (Str × Addr)), (∀ p ∈ names, p.2 = .free → ∃ c, env.cells.lookup p.1 = some c) →
      ∃ cl, forIn names acc f = pure cl ∧ (∀ x c, (x, c) ∈ cl → (x, c) ∈ acc ∨ ((x, NameKind.free) ∈ names ∧ env.cells.lookup x = some c)) ∧ (∀ x c, (x, c) ∈ acc → (x, c) ∈ cl) ∧ (∀ x, (x, NameKind.free) ∈ names → ∃ c, (x, c) ∈ cl)
  | [], acc, _ => ⟨acc, rfl, fun x c h => .inl h, fun x c h => h, fun x h => nomatch h⟩
  | (n, k) :: r, acc, h => by
    rw [List.forIn_cons, hf]
    by_cases hk : (k == NameKind.free) = true
    · rw [if_pos hk]
      have hk' : k = .free := by simpa using hk
      subst hk'
      obtain ⟨c, hc⟩ := h _ List.mem_cons_self rfl
      have e1 : cellOf env n = pure c := by unfold cellOf; rw [hc]
      obtain ⟨cl, g1, g2, g3, g4⟩ := closure_at hf r ((n, c) :: acc) fun p hp => h p (List.mem_cons_of_mem _ hp)
      refine ⟨cl, by rw [e1]; exact g1, fun x d hx => ?_, fun x d hx => g3 x d (List.mem_cons_of_mem _ hx), fun x hx => ?_⟩
      · rcases g2 x d hx with h1 | h1
        · rcases List.mem_cons.mp h1 with e | h1
          · cases e; exact .inr ⟨List.mem_cons_self, hc⟩
          · exact .inl h1
        · exact .inr ⟨List.mem_cons_of_mem _ h1.1, h1.2⟩
      · rcases List.mem_cons.mp hx with e | hx
        · cases e; exact ⟨c, g3 _ _ List.mem_cons_self⟩
        · exact g4 x hx
    · rw [if_neg hk]
      obtain ⟨cl, g1, g2, g3, g4⟩ := closure_at hf r acc fun p hp => h p (List.mem_cons_of_mem _ hp)
      refine ⟨cl, g1, fun x d hx => ?_, g3, fun x hx => ?_⟩
      · rcases g2 x d hx with h1 | h1
        · exact .inl h1
        · exact .inr ⟨List.mem_cons_of_mem _ h1.1, h1.2⟩
      · rcases List.mem_cons.mp hx with e | hx
        · cases e; exact absurd rfl hk
        · exact g4 x hx
theorem closureFor_at {csc : Scope} {env : Env} (h : ∀ p ∈ csc.names, p.2 = .free → ∃ c, env.cells.lookup p.1 = some c) :
    ∃ cl, closureFor csc env = pure cl ∧ (∀ x c, (x, c) ∈ cl → (x, NameKind.free) ∈ csc.names ∧ env.cells.lookup x = some c) ∧ (∀ x, (x, NameKind.free) ∈ csc.names → ∃ c, (x, c) ∈ cl) := by
  obtain ⟨cl, g1, g2, g3, g4⟩ := closure_at (env := env) (f := fun x cs => match x with | (n, k) => if k == .free then (do let c ← cellOf env n; pure (.yield ((n, c) :: cs))) else pure (.yield cs)) (fun n k cs => rfl) csc.names [] h
  refine ⟨cl, ?_, fun x c hx => (g2 x c hx).elim (fun h => nomatch h) id, g4⟩
  unfold closureFor
  have : (forIn csc.names ([] : List (Str × Addr)) fun x cs => match x with | (n, k) => if k == NameKind.free then (do let c ← cellOf env n; pure (ForInStep.yield ((n, c) :: cs))) else pure (ForInStep.yield cs)) = pure cl := g1
  exact (congrArg (fun m : Sem (List (Str × Addr)) => m >>= fun cs => pure cs) this).trans rfl
theorem lookup_cellsFrom : ∀ (names : List (Str × NameKind)) (n : Nat) (acc : List (Str × Addr)) (x : Str), (∀ k, (x, k) ∈ names → k ≠ .cell) → (cellsFrom n names acc).lookup x = acc.lookup x
  | [], n, acc, x, _ => rfl
  | (y, k) :: r, n, acc, x, h => by
    unfold cellsFrom
    split
    · rename_i hk
      rw [lookup_cellsFrom r _ _ x fun k' h' => h k' (List.mem_cons_of_mem _ h')]
      have : (x == y) = false := by
        cases e : x == y with
        | false => rfl
        | true =>
          obtain rfl := beq_iff_eq.mp e
          exact absurd (by simpa using hk) (h k List.mem_cons_self)
      rw [List.lookup_cons, this]
    · exact lookup_cellsFrom r _ _ x fun k' h' => h k' (List.mem_cons_of_mem _ h')
theorem mem_cellsFrom_acc : ∀ (names : List (Str × NameKind)) (n : Nat) (acc : List (Str × Addr)) (x : Str) (c : Addr), (x, c) ∈ cellsFrom n names acc → c < n → (x, c) ∈ acc
  | [], n, acc, x, c, h, _ => h
  | (y, k) :: r, n, acc, x, c, h, hlt => by
    unfold cellsFrom at h
    split at h
    · rcases List.mem_cons.mp (mem_cellsFrom_acc r (n + 1) _ x c h (Nat.lt_succ_of_lt hlt)) with e | h
      · cases e; exact absurd hlt (Nat.lt_irrefl _)
      · exact h
    · exact mem_cellsFrom_acc r n _ x c h hlt
/-- the cells of a comprehension: its own are new, the others are those around -/
theorem cells_own : ∀ (names : List (Str × NameKind)) (n : Nat) (acc : List (Str × Addr)) (x : Str) (c : Addr), (cellsFrom n names acc).lookup x = some c → (acc.lookup x = some c ∧ ∀ k, (x, k) ∈ names → k ≠ .cell) ∨ ((x, NameKind.cell) ∈ names ∧ n ≤ c)
  | [], n, acc, x, c, h => .inl ⟨h, fun _ h => nomatch h⟩
  | (y, k) :: r, n, acc, x, c, h => by
    unfold cellsFrom at h
    split at h
    · rename_i hk
      have hk' : k = .cell := by simpa using hk
      subst hk'
      rcases cells_own r (n + 1) _ x c h with ⟨h1, h2⟩ | ⟨h1, h2⟩
      · rw [List.lookup_cons] at h1
        cases e : x == y with
        | true =>
          obtain rfl := beq_iff_eq.mp e
          rw [e] at h1; cases h1
          exact .inr ⟨List.mem_cons_self, Nat.le_refl _⟩
        | false =>
          rw [e] at h1
          refine .inl ⟨h1, fun k' h' => ?_⟩
          rcases List.mem_cons.mp h' with q | q
          · cases q; simp at e
          · exact h2 k' q
      · exact .inr ⟨List.mem_cons_of_mem _ h1, by omega⟩
    · rename_i hk
      rcases cells_own r n acc x c h with ⟨h1, h2⟩ | ⟨h1, h2⟩
      · refine .inl ⟨h1, fun k' h' => ?_⟩
        rcases List.mem_cons.mp h' with q | q
        · cases q; exact fun e => hk (by rw [e]; rfl)
        · exact h2 k' q
      · exact .inr ⟨List.mem_cons_of_mem _ h1, h2⟩
theorem cells_fresh : ∀ (names : List (Str × NameKind)) (h : Heap) (acc : List (Str × Addr)), (∀ x, (x, NameKind.cell) ∈ names → ∃ c, (cellsFrom h.objs.size names acc).lookup x = some c) ∧
    (∀ x c, (x, c) ∈ cellsFrom h.objs.size names acc → (x, c) ∈ acc ∨ ((pushCells h names).IsCell c none ∧ h.objs.size ≤ c)) ∧ ((∀ x c, (x, c) ∈ acc → c < h.objs.size) → ∀ x y c, (x, c) ∈ cellsFrom h.objs.size names acc → (y, c) ∈ cellsFrom h.objs.size names acc → h.objs.size ≤ c → x = y)
  | [], h, acc => ⟨fun _ h => (by cases h), fun x c h => .inl h, fun hacc x y c h1 _ h3 => absurd (hacc x c h1) (Nat.not_lt.mpr h3)⟩
  | (y, k) :: r, h, acc => by
    unfold cellsFrom pushCells
    split
    · have ih := cells_fresh r (h.push { cls := .type "cell", data := .cell none }) ((y, h.objs.size) :: acc)
      rw [Heap.size_push] at ih
      obtain ⟨i1, i2, i3⟩ := ih
      have hself : (pushCells (h.push { cls := .type "cell", data := .cell none }) r).IsCell h.objs.size none := ⟨_, pushCells_keeps _ _ _ _ (Heap.get?_push_size _ rfl), rfl⟩
      refine ⟨fun x hx => ?_, fun x c hx => ?_, fun hacc x z c h1 h2 h3 => ?_⟩
      · have hs := cellsFrom_some (x := x) r (h.objs.size + 1) ((y, h.objs.size) :: acc)
        rcases List.mem_cons.mp hx with e | hx
        · cases e
          have hs' := hs (.inr (by rw [List.lookup_cons]; simp))
          exact Option.isSome_iff_exists.mp hs'
        · exact i1 x hx
      · rcases i2 x c hx with h1 | ⟨h1, h2⟩
        · rcases List.mem_cons.mp h1 with e | h1
          · cases e; exact .inr ⟨hself, Nat.le_refl _⟩
          · exact .inl h1
        · exact .inr ⟨h1, by omega⟩
      · have hacc' : ∀ x c, (x, c) ∈ (y, h.objs.size) :: acc → c < h.objs.size + 1 := fun x c hm => by
          rcases List.mem_cons.mp hm with e | hm
          · cases e; exact Nat.lt_succ_self _
          · exact Nat.lt_succ_of_lt (hacc x c hm)
        rcases Nat.eq_or_lt_of_le h3 with e | hlt
        · subst e
          have one : ∀ x, (x, h.objs.size) ∈ cellsFrom (h.objs.size + 1) r ((y, h.objs.size) :: acc) → x = y := fun x hx => by
            have := mem_cellsFrom_acc r (h.objs.size + 1) ((y, h.objs.size) :: acc) x h.objs.size hx (Nat.lt_succ_self _)
            rcases List.mem_cons.mp this with e | hm
            · cases e; rfl
            · exact absurd (hacc x _ hm) (Nat.lt_irrefl _)
          exact (one x h1).trans (one z h2).symm
        · exact i3 hacc' x z c h1 h2 hlt
    · exact (by
        obtain ⟨i1, i2, i3⟩ := cells_fresh r h acc
        rename_i hk
        refine ⟨fun x hx => ?_, i2, i3⟩
        rcases List.mem_cons.mp hx with e | hx
        · cases e; exact absurd rfl hk
        · exact i1 x hx)
theorem rel_free {sc : Scope} {x : Str} : ∀ {names : List (Str × NameKind)}, names.lookup x = some .free → (names.map fun (n, k) => if (k == NameKind.free && sc.kind == .function && sc.names.lookup n == some .cell) then (n, NameKind.cell) else (n, k)).lookup x = some .free ∨ (names.map fun (n, k) => if (k == NameKind.free && sc.kind == .function && sc.names.lookup n == some .cell) then (n, NameKind.cell) else (n, k)).lookup x = some .cell
  | [], h => by cases h
  | (y, k) :: r, h => by
    rw [List.map_cons]
    rw [List.lookup_cons] at h
    by_cases q : (k == NameKind.free && sc.kind == .function && sc.names.lookup y == some .cell) = true
    · simp only [if_pos q]
      rw [List.lookup_cons]
      cases e : x == y with
      | true => exact .inr rfl
      | false => rw [e] at h; exact rel_free h
    · simp only [if_neg q]
      rw [List.lookup_cons]
      cases e : x == y with
      | true => rw [e] at h; exact .inl h
      | false => rw [e] at h; exact rel_free h
theorem lookup_of_mem {x : Str} {c : Addr} : ∀ {l : List (Str × Addr)}, (x, c) ∈ l → ∃ c', l.lookup x = some c'
  | (y, d) :: r, h => by
    rw [List.lookup_cons]
    cases e : x == y with
    | true => exact ⟨d, rfl⟩
    | false =>
      rcases List.mem_cons.mp h with q | q
      · cases q; simp at e
      · exact lookup_of_mem q
/-- a comprehension's own frame, at its start -/
theorem comp_env {env : Env} {Ψ φ : Store} {ρ : Str → Option Value} {s : Shared} {csc : Scope} {cl : List (Str × Addr)} {s2 : Shared} {A : Around} {P : Env → Shared → Prop} {E : Value → Shared → Prop} {W : Addr → Prop} {D0 : Addr}
    (X : St C F env Ψ φ ρ vars bs s) (hcsc : cscOk csc = true) (hfree : freeOk csc F vars = true)
    (hcl1 : ∀ x c, (x, c) ∈ cl → (x, NameKind.free) ∈ csc.names ∧ env.cells.lookup x = some c) (hcl2 : ∀ x, (x, NameKind.free) ∈ csc.names → ∃ c, (x, c) ∈ cl)
    (hP : ∀ cenv h tk, St C (compFm csc F) { cenv with scope := relabel csc env } (Mine.prot Ψ (Wr F env ρ vars) s.heap) φ (fun x => if csc.names.lookup x = some .free then ρ x else none) (capt csc vars) bs { s with heap := h, toks := tk } →
      (∀ b o, s.heap.get? b = some o → h.get? b = some o) → s.heap.get? cenv.locals = none → P cenv { s with heap := h, toks := tk }) :
    wpAny C.M A (newFunctionEnv csc env.globals cl [] env.qual none .none (some env)) P E s := by
  simp only [cscOk, Bool.and_eq_true, beq_iff_eq] at hcsc
  obtain ⟨⟨hkind, hloc⟩, hcn⟩ := hcsc
  simp only [newFunctionEnv, Option.isSome_some, if_true]
  refine wpAny_bind (wpAny_alloc ?_)
  refine wpAny_bind (wpAny_layCells _ (fun name kind cells => by cases hkc : kind == NameKind.cell <;> simp [hkc]) _ _ _ _ ?_)
  rw [show ({ s with heap := s.heap.push { cls := .type "dict", data := .dict #[] } } : Shared).heap.objs.size = s.heap.objs.size + 1 from Heap.size_push ..]
  refine wpAny_bind ?_
  rw [List.forIn_nil]
  refine wpAny_pure (wpAny_pure ?_)
  have keep : ∀ b o, s.heap.get? b = some o → (pushCells (s.heap.push { cls := .type "dict", data := .dict #[] }) csc.names).get? b = some o := fun b o e => pushCells_keeps _ _ _ _ (Heap.get?_push_of_some _ e)
  have hL : s.heap.get? s.heap.objs.size = none := get?_size
  have fr1 := fun x c (h : (x, c) ∈ cl) => hcl1 x c h
  obtain ⟨c1, c2, c3⟩ := cells_fresh csc.names (s.heap.push { cls := .type "dict", data := .dict #[] }) cl
  rw [Heap.size_push] at c1 c2 c3
  show P _ { s with heap := pushCells (s.heap.push { cls := .type "dict", data := .dict #[] }) csc.names, toks := s.toks }
  refine hP _ _ _ ?_ keep hL
  have hcell : ∀ x, csc.names.lookup x = some .free → ∀ c, env.cells.lookup x = some c → (cellsFrom (s.heap.objs.size + 1) csc.names cl).lookup x = some c := fun x hx c hc => by
    have hnc : ∀ k, (x, k) ∈ csc.names → k ≠ .cell := fun k hk e => by
      subst e
      have hm : x ∈ cellNames csc := List.mem_map.mpr ⟨_, List.mem_filter.mpr ⟨hk, by simp⟩, rfl⟩
      have := List.all_eq_true.mp hcn x hm
      rw [hx] at this; cases this
    rw [lookup_cellsFrom _ _ _ _ hnc]
    obtain ⟨d, hd⟩ := hcl2 x (mem_of_lookup hx)
    obtain ⟨c', hc'⟩ := lookup_of_mem hd
    rw [hc']
    have := (hcl1 x c' (mem_of_lookup hc')).2
    rw [hc] at this; exact this.symm
  have hfr : ∀ x, (x, NameKind.free) ∈ csc.names → (∃ v, ρ x = some v) ∧ (F.sc.names.lookup x = some .cell ∨ F.sc.names.lookup x = some .free) ∧ csc.names.lookup x = some .free := fun x hx => by
    have := List.all_eq_true.mp hfree _ hx
    simp only [Bool.or_eq_true, bne_self_eq_false, Bool.false_eq_true, false_or, Bool.and_eq_true, beq_iff_eq] at this
    obtain ⟨⟨h1, h2⟩, h3⟩ := this
    refine ⟨?_, h2, h3⟩
    obtain ⟨sl, hsl⟩ := Option.isSome_iff_exists.mp h1
    cases sl with
    | val d => obtain ⟨v, g, _⟩ := X.F.val x d hsl; exact ⟨v, g⟩
    | mu ds => obtain ⟨a, vs, n, g, _⟩ := X.F.mu x ds hsl; exact ⟨_, g⟩
  have hclt : ∀ x c, (x, c) ∈ cl → c < s.heap.objs.size + 1 := fun x c hx => by
    obtain ⟨h1, h2⟩ := hcl1 x c hx
    obtain ⟨⟨v, h3⟩, h4, _⟩ := hfr x h1
    obtain ⟨c', h5, h6⟩ := X.F.cell x v h3 h4
    rw [h2] at h5; cases h5
    exact Nat.lt_succ_of_lt h6.lt
  have G := X.prot
  have hW : ∀ a, s.heap.get? a = none → ¬ Wr F env ρ vars a := fun a ha m => by
    obtain ⟨_, _, o, e⟩ := X.wr_phi m
    rw [ha] at e; cases e
  have hrel : relabel csc env = relS csc F.sc := by
    unfold relabel relS Env.kindOf
    rw [X.F.sc]
  have newC : ∀ x, x ∈ cellNames csc → ∃ c, (cellsFrom (s.heap.objs.size + 1) csc.names cl).lookup x = some c ∧ (pushCells (s.heap.push { cls := .type "dict", data := .dict #[] }) csc.names).IsCell c none ∧ s.heap.objs.size + 1 ≤ c := fun x hx => by
    have hm : (x, NameKind.cell) ∈ csc.names := by
      obtain ⟨p, hp, rfl⟩ := List.mem_map.mp hx
      obtain ⟨h1, h2⟩ := List.mem_filter.mp hp
      have : p.2 = .cell := by simpa using h2
      rw [← this]; exact h1
    obtain ⟨c, hc⟩ := c1 x hm
    refine ⟨c, hc, ?_⟩
    rcases c2 x c (mem_of_lookup hc) with h | h
    · have h1 := (hcl1 x c h).1
      have h2 := (hfr x h1).2.2
      have h3 := List.all_eq_true.mp hcn x hx
      rw [h2] at h3; cases h3
    · exact h
  refine ⟨G.grow keep, hrel, hkind, X.F.glob, X.F.blt, ⟨fun _ => none, (Heap.Ns.new s.heap (.type "dict")).keeps (pushCells_keeps _ _), fun x v e1 e2 => ?_⟩, ⟨(G.new hL).1, (G.new hL).2, X.bne hL⟩, fun x v e1 e2 => ?_, fun x hx => ?_, fun x c e1 e2 => ?_, fun x d e => ?_, fun x es e => ?_, fun x y es _ e => ?_⟩
  · have hf : csc.names.lookup x = some .free := by
      by_cases q : csc.names.lookup x = some .free
      · exact q
      · simp only [if_neg q] at e1; cases e1
    have := rel_free (sc := F.sc) hf
    have e2' : (relS csc F.sc).names.lookup x = some .local := e2
    rcases this with h | h <;> · rw [show (relS csc F.sc).names.lookup x = _ from h] at e2'; cases e2'
  · have hf : csc.names.lookup x = some .free := by
      by_cases q : csc.names.lookup x = some .free
      · exact q
      · simp only [if_neg q] at e1; cases e1
    simp only [if_pos hf] at e1
    obtain ⟨c, h1, h2⟩ := X.F.cell x v e1 (hfr x (mem_of_lookup hf)).2.1
    exact ⟨c, hcell x hf c h1, h2.keeps keep⟩
  · obtain ⟨c, h1, h2, h3⟩ := newC x hx
    have hn : s.heap.get? c = none := get?_ge (by omega)
    refine ⟨c, none, h1, h2, (G.new hn).1, (G.new hn).2, X.bne hn, fun y hy e => hy ?_⟩
    exact (c3 hclt x y c (mem_of_lookup h1) (mem_of_lookup e) h3).symm
  · rcases cells_own _ _ _ _ _ e1 with ⟨h1, _⟩ | ⟨h1, _⟩
    · obtain ⟨h2, h3⟩ := hcl1 x c (mem_of_lookup h1)
      obtain ⟨⟨v, h4⟩, h5, _⟩ := hfr x h2
      by_cases q : x ∈ F.ow
      · have m : Wr F env ρ vars c := .inr (.inl ⟨x, q, h3⟩)
        obtain ⟨_, _, o, e⟩ := X.wr_phi m
        exact ⟨o, by rw [prot_in m]; exact e⟩
      · obtain ⟨o, e⟩ := X.F.fr x c h3 q
        exact ⟨o, le_prot X.G c o e⟩
    · exact (e2 (List.mem_map.mpr ⟨_, List.mem_filter.mpr ⟨h1, by simp⟩, rfl⟩)).elim
  · obtain ⟨h1, h2, _⟩ := capt_lookup e
    obtain ⟨v, h3, h4⟩ := X.F.val x d h2
    exact ⟨v, by simp only [if_pos h1]; exact h3, h4⟩
  · obtain ⟨_, _, d, q⟩ := capt_lookup e; cases q
  · obtain ⟨_, _, d, q⟩ := capt_lookup e; cases q
end
end Mine
end
section
set_option maxRecDepth 100000
set_option linter.unusedVariables false
namespace Mine
open PySem PySem.W PySem.Calls PyProof.Rows PySem.Spec
theorem compLoop2 {prog : Program} {w : World} {A : Around} {s : Shared} {R : Result → Shared → Prop} {elt target iter : Expr} {ifs : List Expr} {scope : Scope} {pos : Pos} {it acc : Value} {env : Env} (I : Nat → Shared → Prop)
    (turn : ∀ n s, I n s → wpAny (model prog w) A (pyNext it) (fun r s₁ => match r with
      | none => R (.ok .next) s₁
      | some v => wpAny (model prog w) A (letOwnedTupleGo target it v) (fun _ s' => wpAny (model prog w) A (assign target env v) (fun _ s₂ =>
          wpAny (model prog w) A (forIn ifs true fun c r => if r = true then do let ok ← isTrue c env (eval c env); pure (ForInStep.yield ok) else pure (ForInStep.yield r)) (fun ok s₃ =>
            if ok = true then wpAny (model prog w) A (eval elt env) (fun x s₄ =>
              wpAny (model prog w) A (call (.builtin "list.append") [acc, x]) (fun _ s₅ => ∃ m, m < n ∧ I m s₅) (fun _ _ => False) s₄) (fun _ _ => False) s₃
            else ∃ m, m < n ∧ I m s₃) (fun _ _ => False) s₂) (fun _ _ => False) s') (fun _ _ => False) s₁) (fun _ _ => False) s)
    (n : Nat) (h : I n s) : codeAny (model prog w) A (.compLoop (.ListComp elt [⟨target, iter, ifs, 0⟩] scope pos) 0 it acc env) R s := by
  refine codeAny_loop rfl I (fun n s hI => ?_) n h
  show wpAny _ A ((compTurn (.ListComp elt [⟨target, iter, ifs, 0⟩] scope pos) 0 it acc env).onRaise (fun x => do noteFrame x env; theTreesLotGoes x)) _ _ s
  refine wpAny_noted ?_
  rw [compTurn_list]
  refine wpAny_bind (wpAny_standAt (wpAny_bind (wpAny_mono (turn n s hI) (fun r s₁ h₁ => ?_) fun _ _ h' => h'.elim)))
  cases r with
  | none => exact wpAny_pure h₁
  | some v =>
    refine wpAny_bind (wpAny_mono h₁ (fun _ s' h' => ?_) fun _ _ x => x.elim)
    refine wpAny_bind (wpAny_mono h' (fun _ s₂ h₂ => wpAny_bind (wpAny_mono h₂ (fun ok s₃ h₃ => ?_) fun _ _ h' => h'.elim)) fun _ _ h' => h'.elim)
    cases ok with
    | false => exact wpAny_pure ⟨rfl, h₃⟩
    | true =>
      exact wpAny_bind (wpAny_bind (wpAny_mono h₃ (fun x s₄ h₄ => wpAny_bind (wpAny_mono h₄ (fun _ s₅ h₅ => wpAny_pure (wpAny_pure ⟨rfl, h₅⟩)) fun _ _ h' => h'.elim)) fun _ _ h' => h'.elim))
section
variable {C : Cx} {F : Fm} {vars : Vars} {bs : BS}
noncomputable def tgtNames : Expr → List Str
  | .Name x _ => [x]
  | .Tuple ts _ _ => (namesOf ts).getD []
  | _ => []
theorem bindT_names {t : Expr} {d : D} {nv : Vars} (h : bindT t d = some nv) : nv.map (·.1) = tgtNames t ∧ ∀ p ∈ nv, ∃ e, p.2 = .val e := by
  unfold bindT at h
  split at h
  · cases h; exact ⟨rfl, fun p hp => by rw [List.mem_singleton.mp hp]; exact ⟨_, rfl⟩⟩
  · rename_i ts k p ds
    split at h
    · rename_i xs hn
      refine ⟨by rw [(putsOf_names h).1]; show xs = (namesOf ts).getD []; rw [hn]; rfl, ?_⟩
      have : ∀ {xs : List Str} {ds : List D} {nv : Vars}, putsOf xs (ds.map R.val) = some nv → ∀ p ∈ nv, ∃ e, p.2 = .val e := by
        intro xs
        induction xs with
        | nil => intro ds nv h; cases ds with
          | nil => cases h; intro p hp; cases hp
          | cons d ds => cases h
        | cons x xs ih => intro ds nv h; cases ds with
          | nil => cases h
          | cons d ds =>
            rw [List.map_cons] at h
            unfold putsOf at h
            split at h
            · rename_i sl nv' h1 h2
              cases h; cases h1
              intro p hp
              rcases List.mem_cons.mp hp with rfl | hp
              · exact ⟨d, rfl⟩
              · exact ih h2 p hp
            · cases h
      exact this h
    · cases h
  · cases h
theorem lookup_append_ne {x : Str} {l r : Vars} (h : x ∉ l.map (·.1)) : (l ++ r).lookup x = r.lookup x := by
  induction l with
  | nil => rfl
  | cons p l ih =>
    obtain ⟨y, sl⟩ := p
    rw [List.map_cons, List.mem_cons, not_or] at h
    rw [List.cons_append, lookup_ne h.1]
    exact ih h.2
theorem lookup_mem' {x : Str} {sl : Slot} : ∀ {l : Vars}, l.lookup x = some sl → (x, sl) ∈ l
  | (y, s2) :: r, h => by
    by_cases e : x = y
    · subst e; rw [lookup_self] at h; cases h; exact List.mem_cons_self
    · rw [lookup_ne e] at h; exact List.mem_cons_of_mem _ (lookup_mem' h)
/-- how a comprehension goes, told over its own frame -/
structure CompOk (C : Cx) (F : Fm) (vars : Vars) (csc : Scope) (target elt : Expr) (ifs : List Expr) (Inv : List D → List D → BS → Prop) : Prop where
  turn : ∀ x rest acc b, Inv (x :: rest) acc b → ∃ nv, bindT target x = some nv ∧ TsL C (compFm csc F) (nv ++ capt csc vars) b ifs fun b' t =>
    (t = true → Ev C (compFm csc F) (nv ++ capt csc vars) b' elt fun b2 r => ValK (fun d => acc.length ≤ 16777215 ∧ Inv rest (acc ++ [d]) b2) r.norm) ∧ (t = false → Inv rest acc b')
  tgt : tgtOk (compFm csc F) target = true
  cok : cscOk csc = true
  free : freeOk csc F vars = true
  apart : (tgtNames target).all (fun x => !(csc.names.lookup x == some .free)) = true
inductive CompI (C : Cx) (F : Fm) (env : Env) (Ψ φ0 : Store) (pv : List Addr) (xs : List D) (J : Nat → Store → Heap → Prop) (Inv : List D → List D → BS → Prop) (vars : Vars) (Dl L : Addr) (n : Nat) (s : Shared) : Prop
  | intro (i : Nat) (φ : Store) (ρ : Str → Option Value) (b : BS) (acc : List D) (vs : Array Value) (m : Nat) (hn : n + i = xs.length + 1) (hi : i ≤ xs.length) (le : φ0.Le φ) (X : St C F env Ψ φ ρ vars b s) (hJ : J i φ s.heap) (V : PvOk C Ψ φ pv s.heap)
    (d : s.heap.get? Dl = some (listOf vs m)) (p : φ Dl = none) (q : φ L = none) (r : Reps φ C.β vs.toList acc) (k : Inv (xs.drop i) acc b) : CompI C F env Ψ φ0 pv xs J Inv vars Dl L n s
theorem comp_core {env : Env} {Ψ φ : Store} {ρ : Str → Option Value} {s : Shared} {csc : Scope} {cl : List (Str × Addr)} {A : Around} {target elt iter : Expr} {ifs : List Expr} {pos : Pos} {Inv : List D → List D → BS → Prop} {xs : List D} {pv : List Addr} {I : Addr} {J : Nat → Store → Heap → Prop} {tok : Expr → Prop} {E : Value → Shared → Prop} {RR : Value → Addr → Result → Shared → Prop}
    (hA : AOk F.n A) (X : St C F env Ψ φ ρ vars bs s) (K : CompOk C F vars csc target elt ifs Inv) (hcl1 : ∀ x c, (x, c) ∈ cl → (x, NameKind.free) ∈ csc.names ∧ env.cells.lookup x = some c) (hcl2 : ∀ x, (x, NameKind.free) ∈ csc.names → ∃ c, (x, c) ∈ cl)
    (It : Itr C pv I xs tok J) (htok : tok target) (hJ : J 0 φ s.heap) (hpv : ∀ a ∈ pv, φ a = none ∧ Ψ a = none ∧ a ≠ C.β ∧ IsFields s.heap a) (h0 : Inv xs [] bs)
    (hRR : ∀ Dl L φ' bs' acc s' vs n, φ.Le φ' → GSt C (Mine.prot Ψ (Wr F env ρ vars) s.heap) φ' bs' s' → Inv [] acc bs' → s'.heap.get? Dl = some (listOf vs n) → Reps φ' C.β vs.toList acc → s.heap.get? Dl = none → φ' Dl = none → Dl ≠ L → s.heap.get? L = none → φ' L = none → (∃ m, s'.heap.Ns L m) →
      RR (.ref Dl) L (.ok .next) s') :
    wpAny C.M A (newList []) (fun acc s₃ => wpAny C.M A (newFunctionEnv csc env.globals cl [] env.qual none .none (some env)) (fun cenv s₄ =>
      codeAny C.M A (.compStart (.ListComp elt [⟨target, iter, ifs, 0⟩] csc pos) 0 (.ref I) acc { cenv with scope := relabel csc env }) (RR acc cenv.locals) s₄) E s₃) E s := by
  refine wpAny_newObj_type ?_ (by size_fits)
  have hDn : s.heap.get? s.heap.objs.size = none := get?_size
  generalize hD : s.heap.objs.size = Dl at hDn ⊢
  have hDl : (s.heap.push (listOf #[] 0)).get? Dl = some (listOf #[] 0) := by rw [← hD]; exact Heap.get?_push_size _ rfl
  have X1 : St C F env Ψ φ ρ vars bs { s with heap := s.heap.push (listOf #[] 0) } := X.grow (tk := s.toks) fun b o e => Heap.get?_push_of_some _ e
  refine comp_env (F := F) (vars := vars) (D0 := 0) (W := fun _ => True) (s2 := s) X1 K.cok K.free hcl1 hcl2 fun cenv h tk X2 hk hL => ?_
  dsimp only at hk hL
  have hLs : s.heap.get? cenv.locals = none := by
    cases e : s.heap.get? cenv.locals with
    | none => rfl
    | some o => rw [Heap.get?_push_of_some _ e] at hL; cases hL
  have hprot : Mine.prot Ψ (Wr F env ρ vars) (s.heap.push (listOf #[] 0)) = Mine.prot Ψ (Wr F env ρ vars) s.heap := by
    funext b
    by_cases m : Wr F env ρ vars b
    · rw [prot_in m, prot_in m]
      obtain ⟨_, _, o, e⟩ := X.wr_phi m
      rw [e, Heap.get?_push_of_some _ e]
    · rw [prot_out m, prot_out m]
  have X2' : St C (compFm csc F) { cenv with scope := relabel csc env } (Mine.prot Ψ (Wr F env ρ vars) s.heap) φ (fun x => if csc.names.lookup x = some .free then ρ x else none) (capt csc vars) bs { s with heap := h, toks := tk } := hprot ▸ X2
  generalize hce : ({ cenv with scope := relabel csc env } : Env) = ce at X2'
  have hlo : ce.locals = cenv.locals := by rw [← hce]
  generalize hPsi : Mine.prot Ψ (Wr F env ρ vars) s.heap = Ψ2 at X2' hRR
  have hWn : ∀ a, s.heap.get? a = none → Ψ2 a = none := fun a ha => by
    rw [← hPsi, prot_out (fun m => by obtain ⟨_, _, o, e⟩ := X.wr_phi m; rw [ha] at e; cases e)]
    exact (X.G.new ha).2
  have hWpv : ∀ a ∈ pv, Ψ2 a = none := fun a m => by
    obtain ⟨g1, g2, g3, o, vs, g4, g5⟩ := hpv a m
    rw [← hPsi, prot_out (fun w => ?_)]
    · exact g2
    · rcases w with rfl | ⟨x, hx, e⟩ | ⟨x, ds, e, e2⟩
      · obtain ⟨_, ⟨o', es, ep, k1, k2, _⟩, _⟩ := X.F.ns
        rw [g4] at k1; cases k1; exact g5.notD (fun _ q => by rw [k2] at q; cases q) (fun _ _ q => by rw [k2] at q; cases q)
      · obtain ⟨c, v, k1, ⟨o', k2, k3⟩, _⟩ := X.F.own x hx
        rw [k1] at e; cases e
        rw [g4] at k2; cases k2; exact g5.notD (fun _ q => by rw [k3] at q; cases q) (fun _ _ q => by rw [k3] at q; cases q)
      · obtain ⟨b, us, n, k1, k2, _⟩ := X.F.mu x ds e
        rw [k1] at e2; cases e2
        rw [g4] at k2; cases k2; exact g5.notL
  have hnoMu : ∀ nv, (∀ p ∈ nv, ∃ e, p.2 = Slot.val e) → ∀ x es, (nv ++ capt csc vars).lookup x ≠ some (.mu es) := fun nv hnv x es e => by
    rcases List.mem_append.mp (lookup_mem' e) with hm | hm
    · obtain ⟨d, q⟩ := hnv _ hm; cases q
    · by_cases q : x ∈ nv.map (·.1)
      · -- then the lookup is that of nv
        have : ∃ sl, nv.lookup x = some sl ∧ (nv ++ capt csc vars).lookup x = some sl := by
          clear e hm hnv
          induction nv with
          | nil => cases q
          | cons p l ih =>
            obtain ⟨y, sl⟩ := p
            by_cases w : x = y
            · subst w; exact ⟨sl, lookup_self, lookup_self⟩
            · rw [List.map_cons, List.mem_cons] at q
              rcases q with q | q
              · exact absurd q w
              · obtain ⟨sl', k1, k2⟩ := ih q
                exact ⟨sl', by rw [lookup_ne w]; exact k1, by rw [List.cons_append, lookup_ne w]; exact k2⟩
        obtain ⟨sl, k1, k2⟩ := this
        rw [k2] at e; cases e
        obtain ⟨d, w⟩ := hnv _ (lookup_mem' k1); cases w
      · rw [lookup_append_ne q] at e
        obtain ⟨_, _, d, w⟩ := capt_lookup e; cases w
  have hDβ : Dl ≠ C.β := X.bne hDn
  have hDL : Dl ≠ cenv.locals := by
    rintro rfl
    rw [hDl] at hL; cases hL
  have hDpv : Dl ∉ pv := fun m => by
    obtain ⟨_, _, _, o, vs, g4, _⟩ := hpv Dl m
    rw [hDn] at g4; cases g4
  have loop : codeAny C.M A (.compLoop (.ListComp elt [⟨target, iter, ifs, 0⟩] csc pos) 0 (.ref I) (.ref Dl) ce) (RR (.ref Dl) cenv.locals) { s with heap := h, toks := tk } := by
    refine compLoop2 (CompI C (compFm csc F) ce Ψ2 φ pv xs J Inv (capt csc vars) Dl cenv.locals) (fun n s3 hI => ?_) (xs.length + 1)
      (.intro 0 φ _ bs [] #[] 0 rfl (Nat.zero_le _) (Store.Le.refl φ) X2' (It.frame 0 φ φ s.heap _ hJ (Store.Le.refl φ) fun a m => ?_) ⟨hWpv, fun a m => (hpv a m).2.2.1, fun a m => (hpv a m).1, fun a m => ?_⟩ (hk _ _ hDl) (X.G.new hDn).1 (X.G.new hLs).1 .nil (by simpa using h0))
    rotate_left
    · obtain ⟨_, _, _, o, vs, g4, _⟩ := hpv a m
      rw [g4]; exact hk _ _ (Heap.get?_push_of_some _ g4)
    · obtain ⟨_, _, _, o, vs, g4, g5⟩ := hpv a m
      exact ⟨o, vs, hk _ _ (Heap.get?_push_of_some _ g4), g5⟩
    obtain ⟨i, φ3, ρ3, b3, acc, us, m, hn, hi, le3, X3, J3, V3, d3, p3, q3, r3, i3⟩ := hI
    cases hx : xs[i]? with
    | none =>
      refine wpAny_mono (It.done i φ3 A s3 (fun _ _ => False) (fun s4 => St C (compFm csc F) ce Ψ2 φ3 ρ3 (capt csc vars) b3 s4 ∧ s4.heap.get? Dl = some (listOf us m)) hA.1 J3 X3.G.fro V3.phi hx fun h' tk' hk' => ⟨X3.stepPv V3 hk', hk' _ _ hDpv d3⟩) (fun r s4 ⟨e, X4, d4⟩ => ?_) fun _ _ x => x
      subst e
      have hd : xs.drop i = [] := List.drop_eq_nil_of_le (List.getElem?_eq_none_iff.mp hx)
      rw [hd] at i3
      obtain ⟨mm, hns, _⟩ := X4.F.ns
      exact hRR Dl cenv.locals φ3 b3 acc s4 us m le3 X4.G i3 d4 r3 hDn p3 hDL hLs q3 ⟨mm, hlo ▸ hns⟩
    | some d =>
      have hlt : i < xs.length := (List.getElem?_eq_some_iff.mp hx).1
      have hd : xs.drop i = d :: xs.drop (i + 1) := by
        rw [List.drop_eq_getElem_cons hlt]
        congr 1
        exact (List.getElem?_eq_some_iff.mp hx).2
      rw [hd] at i3
      obtain ⟨nv, hb, hbody⟩ := K.turn d _ acc b3 i3
      obtain ⟨hnames, hvals⟩ := bindT_names hb
      refine wpAny_mono (It.item i φ3 d A s3 target (fun _ _ => False) (fun v s4 => St C (compFm csc F) ce Ψ2 φ3 ρ3 (capt csc vars) b3 s4 ∧ J (i + 1) φ3 s4.heap ∧ (∀ a ∈ pv, IsFields s4.heap a) ∧ ItemRep C φ3 s3.heap s4.heap v d ∧ s4.heap.get? Dl = some (listOf us m)) hA.1 htok J3 X3.G.fro V3.phi hx fun v h' tk' hk' hJ' hp' hv' => ⟨X3.stepPv V3 hk', hJ', hp', hv', hk' _ _ hDpv d3⟩) (fun r s4 ⟨v, e, h4⟩ => ?_) fun _ _ x => x
      subst e
      refine wpAny_mono h4 (fun _ s5 ⟨X5, J5, p5, v5, d5⟩ => ?_) fun _ _ x => x
      have V5 : PvOk C Ψ2 φ3 pv s5.heap := ⟨V3.psi, V3.box, V3.phi, p5⟩
      have X5a := X5.over V5
      have leA : Ψ2.Le (Ψ2.over pv s5.heap) := le_over X5.G
      have hΨD : Ψ2 Dl = none := hWn Dl hDn
      have hΨDa : (Ψ2.over pv s5.heap) Dl = none := by unfold Store.over; rw [if_neg hDpv]; exact hΨD
      have X5b := X5a.protect (a := Dl) d5 p3 hDβ (X5a.ne_loc d5) (X5a.ne_cell d5) (fun x es e => (hnoMu [] (fun _ h => nomatch h) x es e).elim)
      have leB : (Ψ2.over pv s5.heap).Le ((Ψ2.over pv s5.heap).put Dl (listOf us m)) := Store.le_put hΨDa
      refine item_bind (Ψ := (Ψ2.over pv s5.heap).put Dl (listOf us m)) hA.1 X5b X3.G.fro ?_ X3.G.bex (fun x es e => (hnoMu [] (fun _ h => nomatch h) x es e).elim) v5 K.tgt hb fun φ6 ρ6 s6 le6 X6 => ?_
      · intro b o e
        unfold Store.put at e
        split at e
        · rename_i q; subst q; exact ⟨_, d3⟩
        · unfold Store.over at e
          split at e
          · rename_i mm
            obtain ⟨o', _, g, _⟩ := V3.obj b mm
            exact ⟨o', g⟩
          · exact ⟨o, X3.G.pro b o e⟩
      refine wpAny_mono (hbody.run A ce _ φ6 ρ6 s6 hA X6) (fun t s7 ⟨φ7, b7, le7, X7, k7⟩ => ?_) fun _ _ x => x
      have fin : ∀ {s8 : Shared} {φ8 : Store} {b8 : BS} {acc8 : List D} {us8 : Array Value} {m8 : Nat}, φ6.Le φ8 → St C (compFm csc F) ce Ψ2 φ8 ρ6 (nv ++ capt csc vars) b8 s8 → (∀ a ∈ pv, s8.heap.get? a = s5.heap.get? a) → (∀ a ∈ pv, φ8 a = none) → s8.heap.get? Dl = some (listOf us8 m8) → φ8 Dl = none → φ8 cenv.locals = none → Reps φ8 C.β us8.toList acc8 → Inv (xs.drop (i + 1)) acc8 b8 →
          ∃ m', m' < n ∧ CompI C (compFm csc F) ce Ψ2 φ pv xs J Inv (capt csc vars) Dl cenv.locals m' s8 := by
        intro s8 φ8 b8 acc8 us8 m8 le8 X8 hp8 hq8 hd8 hD8 hL8 hr8 hi8
        refine ⟨xs.length - i, by omega, .intro (i + 1) φ8 ρ6 b8 acc8 us8 m8 (by omega) hlt ((le3.trans le6).trans le8) (X8.weaken ?_) (It.frame _ _ _ _ _ J5 (le6.trans le8) hp8) ⟨V3.psi, V3.box, hq8, fun a mm => ?_⟩ hd8 hD8 hL8 hr8 hi8⟩
        · intro x sl e
          have hf := (capt_lookup e).1
          rw [lookup_append_ne]
          · exact e
          · rw [hnames]
            intro hm
            have := List.all_eq_true.mp K.apart x hm
            rw [hf] at this; cases this
        · obtain ⟨o, vs, g1, g2⟩ := p5 a mm
          exact ⟨o, vs, (hp8 a mm).trans g1, g2⟩
      have keep : ∀ {s8 : Shared} {φ8 : Store} {b8 : BS}, GSt C ((Ψ2.over pv s5.heap).put Dl (listOf us m)) φ8 b8 s8 → (∀ a ∈ pv, s8.heap.get? a = s5.heap.get? a) ∧ (∀ a ∈ pv, φ8 a = none) ∧ s8.heap.get? Dl = some (listOf us m) ∧ φ8 Dl = none := by
        intro s8 φ8 b8 G8
        have hp : ∀ a ∈ pv, ∃ o, ((Ψ2.over pv s5.heap).put Dl (listOf us m)) a = some o ∧ s5.heap.get? a = some o := fun a mm => by
          obtain ⟨o, vs, g1, _⟩ := p5 a mm
          have hne : a ≠ Dl := fun q => hDpv (q ▸ mm)
          refine ⟨o, ?_, g1⟩
          unfold Store.put; rw [if_neg hne, over_mem mm]; exact g1
        have none_of : ∀ a o, ((Ψ2.over pv s5.heap).put Dl (listOf us m)) a = some o → φ8 a = none := fun a o e => by
          cases q : φ8 a with
          | none => rfl
          | some o' => rw [G8.sep a o' q] at e; cases e
        refine ⟨fun a mm => ?_, fun a mm => ?_, G8.pro _ _ (Store.put_self ..), none_of _ _ (Store.put_self ..)⟩
        · obtain ⟨o, g1, g2⟩ := hp a mm
          rw [g2]; exact G8.pro _ _ g1
        · obtain ⟨o, g1, _⟩ := hp a mm
          exact none_of a o g1
      have leAll : Ψ2.Le ((Ψ2.over pv s5.heap).put Dl (listOf us m)) := leA.trans leB
      have phiL : ∀ {φ8 : Store} {ρ8 : Str → Option Value} {v8 : Vars} {b8 : BS} {s8 : Shared} {Ψ8 : Store}, St C (compFm csc F) ce Ψ8 φ8 ρ8 v8 b8 s8 → φ8 cenv.locals = none := fun X8 => hlo ▸ X8.F.loc.1
      cases t with
      | false =>
        obtain ⟨a1, a2, a3, a4⟩ := keep X7.G
        exact fin le7 (X7.unprotect leAll X3.F.fr) a1 a2 a3 a4 (phiL X7) (r3.mono (le6.trans le7)) (k7.2 rfl)
      | true =>
        refine wpAny_mono (one (K := fun b2 r => ValK (fun d => acc.length ≤ 16777215 ∧ Inv (xs.drop (i + 1)) (acc ++ [d]) b2) r) (k7.1 rfl) hA X7) (fun y s8 ⟨φ8, b8, r, le8, X8, h8, k8⟩ => ?_) fun _ _ x => x
        revert h8 k8
        generalize r.norm = r
        intro h8 k8
        cases r with
        | val dd =>
          obtain ⟨hz, hI⟩ := k8
          obtain ⟨a1, a2, a3, a4⟩ := keep X8.G
          have el := r3.length
          rw [Array.length_toList] at el
          refine wpAny_list_append_plain (hsz := by rw [sizeLine_eq]; omega) ⟨m, a3⟩ fun h' hp hb => ?_
          obtain ⟨m', hm'⟩ := hp
          have X8u := X8.unprotect leAll X3.F.fr
          refine fin (s8 := { s8 with heap := h' }) (le7.trans le8) (X8u.updFree (tk := s8.toks) a3 a4 hΨD hDβ (fun x es e => (hnoMu nv hvals x es e).elim) hb.extBut) (fun a mm => ?_) a2 hm' a4 (phiL X8) ?_ hI
          · rw [hb.2 a (fun q => hDpv (q ▸ mm))]; exact a1 a mm
          · rw [Array.toList_push]
            exact (r3.mono ((le6.trans le7).trans le8)).snoc h8
        | _ => exact k8.elim
  exact codeAny_compStart_list loop (It.self 0 φ A _ _ _ (It.frame 0 φ φ s.heap _ hJ (Store.Le.refl φ) (fun a m => by
    obtain ⟨_, _, _, o, vs, g4, _⟩ := hpv a m
    rw [g4]; exact hk _ _ (Heap.get?_push_of_some _ g4))) loop)
end
end Mine
end
section
set_option maxRecDepth 100000
set_option linter.unusedVariables false
namespace Mine
open PySem PySem.W PySem.Calls PyProof.Rows PySem.Spec
section
variable {C : Cx} {F : Fm} {vars : Vars} {bs : BS}
theorem St.updNs {env : Env} {Ψ φ : Store} {ρ : Str → Option Value} {s : Shared} {a : Addr} {h : Heap} {tk : Nat} (X : St C F env Ψ φ ρ vars bs s) (ha : ∃ m, s.heap.Ns a m) (hl : a ≠ env.locals) (hφ : φ a = none) (hΨ : Ψ a = none) (hb : a ≠ C.β)
    (hk : ∀ b o, b ≠ a → s.heap.get? b = some o → h.get? b = some o) : St C F env Ψ φ ρ vars bs { s with heap := h, toks := tk } := by
  obtain ⟨_, oa, esa, epa, ha1, ha2, _⟩ := ha
  have ne : ∀ b o, s.heap.get? b = some o → (∀ es ep, o.data ≠ .dict es ep) → h.get? b = some o := fun b o e hd => hk b o (by rintro rfl; rw [ha1] at e; cases e; exact hd _ _ ha2) e
  refine ⟨X.G.upd hk hφ hΨ hb, X.F.sc, X.F.kind, X.F.glob, X.F.blt, ?_, X.F.loc, ?_, ?_, X.F.fr, X.F.val, ?_, X.F.dis⟩
  · obtain ⟨m, ⟨o, es, ep, h1, h2, h3⟩, h4⟩ := X.F.ns
    exact ⟨m, ⟨o, es, ep, hk _ _ (Ne.symm hl) h1, h2, h3⟩, h4⟩
  · intro x v e1 e2
    obtain ⟨c, h1, o, h2, h3⟩ := X.F.cell x v e1 e2
    exact ⟨c, h1, o, ne _ _ h2 (fun _ _ q => by rw [h3] at q; cases q), h3⟩
  · intro x hx
    obtain ⟨c, v, h1, ⟨o, h2, h3⟩, h4⟩ := X.F.own x hx
    exact ⟨c, v, h1, ⟨o, ne _ _ h2 (fun _ _ q => by rw [h3] at q; cases q), h3⟩, h4⟩
  · intro x ds e
    obtain ⟨b, vs, n, h1, h2, h3⟩ := X.F.mu x ds e
    exact ⟨b, vs, n, h1, ne _ _ h2 (fun _ _ q => by cases q), h3⟩
noncomputable def swB (F : Fm) (csc : Scope) (t : Str) (l1 l2 : Nat) : Bool := F.sc.names.lookup t == some .local && l1 == l2 && !(csc.names.any fun (n, k) => n == t && (k == .local || k == .cell))
theorem swaps_comp {env : Env} {elt : Expr} {gs : List Comprehension} {csc : Scope} {pos p : Pos} {t : Str} {line : Nat} (hk : env.scope = F.sc) (hf : F.sc.kind = .function) : swapsWith (.ListComp elt gs csc pos) (some (.Name t p)) line env = pure (swB F csc t p.line pos.line) := by
  unfold swapsWith swB
  have h1 : (env.blockKind == .function) = true := by unfold Env.blockKind; rw [hk, hf]; rfl
  have h2 : env.kindOf t = F.sc.names.lookup t := by rw [← hk]; rfl
  dsimp only
  rw [h1, h2]
  rfl
theorem comp_all_src {env : Env} {Ψ φ : Store} {ρ : Str → Option Value} {s : Shared} {A : Around} {target elt iter : Expr} {ifs : List Expr} {csc : Scope} {pos cpos : Pos} {Inv : List D → List D → BS → Prop} {use : Option (Value → Sem Unit)} {P : Value → Shared → Prop} {Q0 : BS → List D → Prop}
    (hA : AOk F.n A) (X : St C F env Ψ φ ρ vars bs s) (K : CompOk C F vars csc target elt ifs Inv) (hs : notSetE iter = true)
    (hi : Src C F vars bs target iter fun b xs => Inv xs [] b ∧ ∀ acc b', Inv [] acc b' → Q0 b' acc) (hfree : freeOk csc F vars = true)
    (hP : ∀ φ' b acc s' Dl L, φ.Le φ' → St C F env Ψ φ' ρ vars b s' → RV C env Ψ φ' ρ vars s' (.ref Dl) (.own acc) → Q0 b acc → Dl ≠ L → L ≠ env.locals → (∃ m, s'.heap.Ns L m) → φ' L = none → Ψ L = none → L ≠ C.β → (∀ x ∈ F.ow, env.cells.lookup x ≠ some L) → (∀ x es, vars.lookup x = some (.mu es) → ρ x ≠ some (.ref L)) →
      compPost C.M A (fun _ _ => False) use P (.ref Dl) L (.ok .next) s') :
    wpAny C.M A (comprehension (.ListComp elt [⟨target, iter, ifs, 0⟩] csc pos) csc env cpos (newList []) false (eval iter env) use) P (fun _ _ => False) s := by
  have hcsc := K.cok
  simp only [cscOk, Bool.and_eq_true, beq_iff_eq] at hcsc
  obtain ⟨⟨hkind, hloc⟩, hcn⟩ := hcsc
  obtain ⟨cl, hcl, hcl1, hcl2⟩ := closureFor_at (csc := csc) (env := env) (fun p hp hf => by
    have := List.all_eq_true.mp hfree _ hp
    simp only [hf, Bool.or_eq_true, bne_self_eq_false, Bool.false_eq_true, false_or, Bool.and_eq_true, beq_iff_eq] at this
    obtain ⟨⟨h1, h2⟩, h3⟩ := this
    have hv : ∃ v, ρ p.1 = some v := by
      obtain ⟨sl, hsl⟩ := Option.isSome_iff_exists.mp h1
      cases sl with
      | val d => obtain ⟨v, g, _⟩ := X.F.val _ d hsl; exact ⟨v, g⟩
      | mu ds => obtain ⟨a, vs, n, g, _⟩ := X.F.mu _ ds hsl; exact ⟨_, g⟩
    obtain ⟨v, g⟩ := hv
    obtain ⟨c, h5, _⟩ := X.F.cell _ v g h2
    exact ⟨c, h5⟩)
  refine wpAny_comprehension_free (use := use) rfl (fun x => folded_plain hs x) hcl hkind (fun x hx hl => ?_) ?_
  · have := List.all_eq_true.mp hloc x hx
    rw [hl] at this
    simpa using this
  refine wpAny_mono (hi.run A env Ψ φ ρ s hA X) (fun x s1 h1 => wpAny_mono h1 (fun it s2 h2 => ?_) fun _ _ x => x) fun _ _ x => x
  obtain ⟨φ1, b1, pv, I, J, xs, le1, X2, It, hJ, hpv, i1, q1⟩ := h2
  refine comp_core (RR := fun acc L r s' => compPost C.M A (fun _ _ => False) use P acc L r s') hA X2 K hcl1 hcl2 It rfl hJ hpv i1 ?_
  intro Dl L φ' bs' acc s' vs n le G inv hD hr hDn hDp hne hLn hLp hns
  have X3 : St C F env Ψ φ' ρ vars bs' s' := X2.back G le
  have hmu : ∀ x es a, (s2.heap.get? a = none) → vars.lookup x = some (.mu es) → ρ x ≠ some (.ref a) := fun x es a ha e q => by
    obtain ⟨b2, us, m, g1, g2, _⟩ := X2.F.mu x es e
    rw [g1] at q
    cases q
    have g2' : s2.heap.get? a = _ := g2
    rw [ha] at g2'; cases g2'
  refine hP φ' bs' acc s' Dl L (le1.trans le) X3 ⟨Dl, ⟨vs, n, rfl, hD, hr, hDp, (X2.G.new hDn).2, X2.bne hDn⟩, fun x es e => hmu x es Dl hDn e⟩ (q1 _ _ inv) hne ?_ hns hLp (X2.G.new hLn).2 (X2.bne hLn) ?_ (fun x es e => hmu x es L hLn e)
  · rintro rfl
    obtain ⟨m, ⟨o, es, ep, g, _⟩, _⟩ := X2.F.ns
    rw [hLn] at g; cases g
  · intro x hx e
    obtain ⟨c, v, g1, ⟨o, g2, _⟩, _⟩ := X2.F.own x hx
    rw [g1] at e; cases e
    rw [hLn] at g2; cases g2
theorem Ev_comp_src {target elt iter : Expr} {ifs : List Expr} {csc : Scope} {pos : Pos} {Q : BS → R → Prop} (Inv : List D → List D → BS → Prop)
    (hi : Src C F vars bs target iter fun b xs => Inv xs [] b ∧ ∀ acc b', Inv [] acc b' → Q b' (.own acc)) (K : CompOk C F vars csc target elt ifs Inv) (hs : notSetE iter = true) : Ev C F vars bs (.ListComp elt [⟨target, iter, ifs, 0⟩] csc pos) Q :=
  ⟨fun A env Ψ φ ρ s hA X => by
    rw [eval_ListComp]
    refine comp_all_src (Q0 := fun b acc => Q b (.own acc)) hA X K hs hi K.free fun φ' b acc s' Dl L le X' hr q hne hl hns hLφ hLΨ hLβ hLo hLm => ?_
    obtain ⟨m, hns⟩ := hns
    refine ⟨m, hns, fun h' hb => ⟨φ', b, .own acc, le, X'.updNs (tk := s'.toks) ⟨m, hns⟩ hl hLφ hLΨ hLβ hb.extBut, ?_, q⟩⟩
    obtain ⟨a, ⟨vs, n, e, h1, h2⟩, h3⟩ := hr
    cases e
    exact ⟨Dl, ⟨vs, n, rfl, hb.extBut _ _ hne h1, h2⟩, h3⟩⟩
theorem Ev_comp {target elt iter : Expr} {ifs : List Expr} {csc : Scope} {pos : Pos} {Q : BS → R → Prop} (Inv : List D → List D → BS → Prop)
    (hi : Ev C F vars bs iter fun b r => ∃ xs, ItOk C r.norm xs ∧ Inv xs [] b ∧ ∀ acc b', Inv [] acc b' → Q b' (.own acc)) (K : CompOk C F vars csc target elt ifs Inv) (hs : notSetE iter = true) : Ev C F vars bs (.ListComp elt [⟨target, iter, ifs, 0⟩] csc pos) Q :=
  Ev_comp_src Inv (Src_ev hi) K hs
theorem Ex1_assign_comp_src {y : Str} {py : Pos} {target elt iter : Expr} {ifs : List Expr} {csc : Scope} {pos spos : Pos} {Q : Vars → BS → Fl → Prop} (Inv : List D → List D → BS → Prop)
    (hi : Src C F vars bs target iter fun b xs => Inv xs [] b ∧ ∀ acc b', Inv [] acc b' → Q ((y, .mu acc) :: vars) b' .next) (K : CompOk C F vars csc target elt ifs Inv) (hs : notSetE iter = true) (hx : isLoc F y = true) :
    Ex1 C F vars bs (.Assign [.Name y py] (.ListComp elt [⟨target, iter, ifs, 0⟩] csc pos) spos) Q :=
  ⟨fun A env Ψ φ ρ s hA X => by
    have hsw := swaps_comp (F := F) (elt := elt) (gs := [⟨target, iter, ifs, 0⟩]) (csc := csc) (pos := pos) (p := py) (t := y) (line := spos.line) X.F.sc X.F.kind
    cases hb : swB F csc y py.line pos.line with
    | false =>
      rw [hb] at hsw
      refine wpAny_Assign_Name (wpAny_mono ((Ev_comp_src (Q := fun b r => OwnK (fun ds => Q ((y, .mu ds) :: vars) b .next) r) Inv hi K hs).run A env Ψ φ ρ s hA X) (fun v s1 ⟨φ1, b1, r, le, X1, h1, k⟩ => ?_) fun _ _ x => x) hsw
      cases r with
      | own ds => exact store_at X1 (sl := .mu ds) h1 hx fun s' X2 => ⟨φ1, _, _, b1, .next, le, X2, trivial, k⟩
      | _ => exact k.elim
    | true =>
      rw [hb] at hsw
      rw [exec_Assign_Name_used _ _ _ _ hsw]
      refine wpAny_bind (wpAny_standAt (wpAny_bind ?_))
      show wpAny _ A (do let _ ← comprehension (.ListComp elt [⟨target, iter, ifs, 0⟩] csc pos) csc env _ (newList []) false (eval iter env) (some (assign (.Name y py) env))) _ _ s
      refine wpAny_bind (wpAny_mono (comp_all_src (use := some (assign (.Name y py) env)) (P := fun _ s' => ExR C F env Ψ φ Q .next s') (Q0 := fun b acc => Q ((y, .mu acc) :: vars) b .next) hA X K hs hi K.free fun φ' b acc s' Dl L le X' hr q hne hl hns hLφ hLΨ hLβ hLo hLm => ?_) (fun _ s' hq => wpAny_pure (wpAny_pure hq)) fun _ _ e => e)
      show wpAny _ A (assign (.Name y py) env (.ref Dl)) _ _ _
      obtain ⟨m, oL, hns⟩ := id hns
      obtain ⟨es, ep, g1, g2, g3⟩ := id hns
      have hr2 := hr
      obtain ⟨a, ⟨vs, n, e, h1, h2, h3, h4, h5⟩, h6⟩ := hr2
      cases e
      have X2 := X'.protect g1 hLφ hLβ hl hLo hLm
      have hr3 : RV C env (Ψ.put L oL) φ' ρ vars s' (.ref Dl) (.own acc) := ⟨Dl, ⟨vs, n, rfl, h1, h2, h3, by unfold Store.put; rw [if_neg hne]; exact h4, h5⟩, h6⟩
      refine assign_name X2 (sl := .mu acc) hr3 hx fun s2 X3 => ?_
      have g4 := X3.G.pro L oL (Store.put_self ..)
      refine ⟨m, ⟨oL, es, ep, g4, g2, g3⟩, fun h' hb2 => ⟨φ', _, _, b, .next, le, (X3.unprotect (Store.le_put hLΨ) X.F.fr).updNs (tk := s2.toks) ⟨m, oL, es, ep, g4, g2, g3⟩ hl hLφ hLΨ hLβ hb2.extBut, trivial, q⟩⟩⟩
theorem Ex1_assign_comp {y : Str} {py : Pos} {target elt iter : Expr} {ifs : List Expr} {csc : Scope} {pos spos : Pos} {Q : Vars → BS → Fl → Prop} (Inv : List D → List D → BS → Prop)
    (hi : Ev C F vars bs iter fun b r => ∃ xs, ItOk C r.norm xs ∧ Inv xs [] b ∧ ∀ acc b', Inv [] acc b' → Q ((y, .mu acc) :: vars) b' .next) (K : CompOk C F vars csc target elt ifs Inv) (hs : notSetE iter = true) (hx : isLoc F y = true) :
    Ex1 C F vars bs (.Assign [.Name y py] (.ListComp elt [⟨target, iter, ifs, 0⟩] csc pos) spos) Q :=
  Ex1_assign_comp_src Inv (Src_ev hi) K hs hx
end
end Mine
end
section
set_option maxRecDepth 100000
set_option linter.unusedVariables false
namespace Mine
open PySem PySem.W PySem.Calls PyProof.Rows PySem.Spec
theorem isStr_eq {e : DictEntry} {x : Str} {t : Tok} (hk : e.key = .str x t) : e.key.isStr x = true := by rw [hk]; simp [Value.isStr]
theorem isStr_ne {e : DictEntry} {x y : Str} {t : Tok} (q : x ≠ y) (hk : e.key = .str y t) : e.key.isStr x = false := by rw [hk]; simpa [Value.isStr] using (Ne.symm q)
theorem getL_ne {e : DictEntry} {es : List DictEntry} {x y : Str} {t : Tok} {r : Option (Option Value)} (q : x ≠ y) (hk : e.key = .str y t) (h1 : getL x es = r) : getL x (e :: es) = r := by
  have e2 : e.refKey = false := by unfold DictEntry.refKey; rw [hk]
  unfold getL at h1 ⊢
  rw [List.find?_cons, isStr_ne q hk]
  simp only [List.any_cons, e2, Bool.false_or]
  exact h1
theorem lookup_ne' {x : Str} {p : Str × D} {fs : List (Str × D)} (q : x ≠ p.1) : (p :: fs).lookup x = fs.lookup x := by
  obtain ⟨y, d⟩ := p
  rw [List.lookup_cons, show (x == y) = false by simpa using q]
theorem repFs_get {φ : Store} {β : Addr} {x : Str} {d : D} {es : List DictEntry} {fs : List (Str × D)} (r : RepFs φ β es fs) (h : fs.lookup x = some d) : ∃ v, getL x es = some (some v) ∧ Rep φ β v d := by
  induction fs generalizing es with
  | nil => cases h
  | cons p fs ih =>
    obtain ⟨e, es', t, q0, hk, hr, r⟩ := r.cons_inv
    rw [q0]
    by_cases q : x = p.1
    · rw [q, List.lookup_cons_self] at h
      refine ⟨e.val, ?_, Option.some.inj h ▸ hr⟩
      unfold getL
      rw [List.find?_cons, isStr_eq (q ▸ hk)]
    · rw [lookup_ne' q] at h
      obtain ⟨v, h1, h2⟩ := ih r h
      exact ⟨v, getL_ne q hk h1, h2⟩
theorem repFs_none {φ : Store} {β : Addr} {x : Str} {es : List DictEntry} {fs : List (Str × D)} (r : RepFs φ β es fs) (h : fs.lookup x = none) : getL x es = some none ∧ (es.any (·.key.isStr x)) = false := by
  induction fs generalizing es with
  | nil => rw [r.nil_inv]; exact ⟨rfl, rfl⟩
  | cons p fs ih =>
    obtain ⟨e, es', t, q0, hk, hr, r⟩ := r.cons_inv
    rw [q0]
    by_cases q : x = p.1
    · rw [q, List.lookup_cons_self] at h; cases h
    · rw [lookup_ne' q] at h
      obtain ⟨h1, h2⟩ := ih r h
      exact ⟨getL_ne q hk h1, by rw [List.any_cons, isStr_ne q hk, h2]; rfl⟩
noncomputable def D.known : D → Bool
  | .any => false
  | _ => true
theorem handed_of {φ : Store} {β : Addr} {v : Value} {d : D} (h : Rep φ β v d) (hk : d.known = true) : handedIn v = true := by
  cases h <;> first | rfl | cases hk
section
variable {C : Cx} {F : Fm} {vars : Vars} {bs : BS}
theorem Cx.Ok.here {C : Cx} (ok : C.Ok) {Ψ φ : Store} {s : Shared} (G : GSt C Ψ φ bs s) : C.K.In s.heap := ok.kin.keeps G.keepH
theorem instAt {Ψ φ : Store} {s : Shared} {a Cl dx : Addr} {es : List DictEntry} {n : Nat} (G : GSt C Ψ φ bs s) (h1 : φ a = some (instObj Cl dx)) (h2 : s.heap.get? dx = some (dictOf es n)) : InstAt s.heap a (instObj Cl dx) Cl (some (dictOf es n)) :=
  ⟨G.fro _ _ h1, rfl, rfl, h2⟩
/-- the value under a name of an object -/
noncomputable def FieldOk (K : Frag) (Cl : Addr) (x : Str) : Prop := plainGet K Cl x = true ∧ hasDictIn K Cl = true ∧ ∃ attr, findIn K (.ref Cl) x = some attr ∧ noGet K attr = true
noncomputable def ClsFieldOk (K : Frag) (Cl : Addr) (x : Str) (a : Value) : Prop := plainGet K Cl x = true ∧ hasDictIn K Cl = true ∧ findIn K (.ref Cl) x = some (some a) ∧ specialIn K a "__get__" = some none ∧ handedIn a = true ∧ copiedNames.contains x = false
/-- what an object's name gives: its own field, or its class's -/
inductive AttrOf (C : Cx) (bs : BS) (x : Str) : D → D → Prop
  | own {Cl : Addr} {fs : List (Str × D)} {d : D} : FieldOk C.K Cl x → fs.lookup x = some d → d.known = true → AttrOf C bs x (.inst Cl fs) d
  | cls {Cl : Addr} {fs : List (Str × D)} {d : D} {a : Value} : ClsFieldOk C.K Cl x a → fs.lookup x = none → (∀ φ : Store, (∀ b o, C.H.get? b = some o → φ b = some o) → Rep φ C.β a d) → AttrOf C bs x (.inst Cl fs) d
  | sown {Cl : Addr} {fs : List (Str × D)} {d : D} : bs = some (.flds fs) → FieldOk C.K Cl x → fs.lookup x = some d → d.known = true → AttrOf C bs x (.self Cl) d
  | scls {Cl : Addr} {fs : List (Str × D)} {d : D} {a : Value} : bs = some (.flds fs) → ClsFieldOk C.K Cl x a → fs.lookup x = none → (∀ φ : Store, (∀ b o, C.H.get? b = some o → φ b = some o) → Rep φ C.β a d) → AttrOf C bs x (.self Cl) d
theorem getAttr_at {env : Env} {Ψ φ : Store} {ρ : Str → Option Value} {s : Shared} {A : Around} {x : Str} {v : Value} {d d' : D} {E : Value → Shared → Prop} {P : Value → Shared → Prop} (ok : C.Ok) (X : St C F env Ψ φ ρ vars bs s) (hv : Rep φ C.β v d) (h : AttrOf C bs x d d')
    (hP : ∀ u, Rep φ C.β u d' → P u { s with toks := s.toks + 1 }) : wpAny C.M A (getAttr v x true) P E s := by
  have X₀ := ok.here X.G
  cases h with
  | own hf hl hk =>
    obtain ⟨hg, hh, attr, ha, hn⟩ := hf
    obtain ⟨_, _, _, _, rfl, h1, h2, h3⟩ := Rep.inst_inv hv
    · skip
      obtain ⟨u, g1, g2⟩ := repFs_get h3 hl
      exact get_value X₀ (instAt X.G h1 (X.G.fro _ _ h2)) (plainGet_of hg).1 (findObj_own hh ha hn g1) (handed_of g2 hk) (hP u g2)
  | cls hf hl hr =>
    obtain ⟨hg, hh, ha, hn, hd, hc⟩ := hf
    obtain ⟨_, _, _, _, rfl, h1, h2, h3⟩ := Rep.inst_inv hv
    exact get_value X₀ (instAt X.G h1 (X.G.fro _ _ h2)) (plainGet_of hg).1 (findObj_cls hh ha hn hd hc (repFs_none h3 hl).1) hd (hP _ (hr φ X.G.base))
  | sown hb hf hl hk =>
    obtain ⟨hg, hh, attr, ha, hn⟩ := hf
    obtain ⟨_, rfl, h1⟩ := Rep.self_inv hv
    · skip
      obtain ⟨⟨es, n, h2, h3⟩, _⟩ := X.G.box _ hb
      obtain ⟨u, g1, g2⟩ := repFs_get h3 hl
      exact get_value X₀ (instAt X.G h1 h2) (plainGet_of hg).1 (findObj_own hh ha hn g1) (handed_of g2 hk) (hP u g2)
  | scls hb hf hl hr =>
    obtain ⟨hg, hh, ha, hn, hd, hc⟩ := hf
    obtain ⟨_, rfl, h1⟩ := Rep.self_inv hv
    · skip
      obtain ⟨⟨es, n, h2, h3⟩, _⟩ := X.G.box _ hb
      exact get_value X₀ (instAt X.G h1 h2) (plainGet_of hg).1 (findObj_cls hh ha hn hd hc (repFs_none h3 hl).1) hd (hP _ (hr φ X.G.base))
theorem Ev_attr {x y : Str} {p pos : Pos} {d d' : D} {Q : BS → R → Prop} (ok : C.Ok) (hv : vars.lookup y = some (.val d)) (hk : isVar F.sc y = true) (ha : AttrOf C bs x d d') (h : Q bs (.val d')) : Ev C F vars bs (.Attribute (.Name y p) x pos) Q :=
  ⟨fun A env Ψ φ ρ s hA X => by
    obtain ⟨v, h1, h2⟩ := X.F.val y d hv
    exact Attribute_any_ (name_at X h1 (getAttr_at ok X h2 ha fun u hu => ⟨φ, bs, .val d', Store.Le.refl φ, X.tick, hu, h⟩) hk)⟩
/-- a method of an object -/
structure MethOk (K : Frag) (Cl : Addr) (name : Str) (f : Addr) : Prop where
  plain : plainGet K Cl name = true
  find : findIn K (.ref Cl) name = some (some (.ref f))
  fn : isFn K (.ref f) = true
  keep : keepIn K (.ref f) = true
theorem plain_args {pos : Pos} {env : Env} : ∀ {es : List Expr}, es.all notStar = true → (backTo pos (starEach es env)).any (·.1) = false ∧ (backTo pos (starEach es env)).all (fun x => !x.1) = true
  | [], _ => ⟨rfl, rfl⟩
  | e :: es, h => by
    obtain ⟨h1, h2⟩ := Bool.and_eq_true_iff.mp (List.all_cons ▸ h)
    obtain ⟨i1, i2⟩ := plain_args (pos := pos) (env := env) h2
    rw [starEach_plain h1]
    exact ⟨by show (false || (backTo pos (starEach es env)).any (·.1)) = false; rw [i1]; rfl, by show ((!false) && (backTo pos (starEach es env)).all (fun x => !x.1)) = true; rw [i2]; rfl⟩
theorem callWith_ok {A : Around} {pos : Pos} {f : Value} {first : List Value} {e : Expr} {es : List Expr} {env : Env} {Ψ φ : Store} {ρ : Str → Option Value} {s : Shared} {Q : BS → List D → Prop} {P : Value → Shared → Prop} (ok : C.Ok) (hk : keepIn C.K f = true) (hA : AOk F.n A) (X : St C F env Ψ φ ρ vars bs s) (h : EvD C F vars bs (e :: es) Q) (hs : (e :: es).all notStar = true)
    (hP : ∀ vs s' φ' bs' ds, φ.Le φ' → St C F env Ψ φ' ρ vars bs' s' → Reps φ' C.β vs ds → Q bs' ds → wpAny C.M A (call f (first ++ vs) []) P (fun _ _ => False) s') : wpAny C.M A (callWith pos f first (backTo pos (starEach (e :: es) env)) []) P (fun _ _ => False) s := by
  obtain ⟨h1, h2⟩ := Bool.and_eq_true_iff.mp (List.all_cons ▸ hs)
  refine callWith_K (h₀ := s.heap) (ok.here X.G) hk ?_ (starEach_plain h1) (plain_args h2).1
  exact wpAny_mono (h.run A env Ψ φ ρ s pos hA X) (fun vs s' ⟨φ', bs', ds, le, X', hr, hq⟩ => ⟨ok.here X'.G, hP vs s' φ' bs' ds le X' hr hq⟩) fun _ _ x => x
theorem methodCall_at {A : Around} {env : Env} {s : Shared} {y name : Str} {p p1 pos : Pos} {e : Expr} {es : List Expr} {P E : Value → Shared → Prop} (hs : (e :: es).all notStar = true) (hl : (p1.endLine == pos.line) = true) (hlen : es.length < 20)
    (h : ∀ pl, wpAny C.M A (eval (.Name y p) env) (fun ov s₁ => wpAny C.M A (getMethod ov name pl) (fun fx s₂ => wpAny C.M A (callWith pos fx.1 fx.2 (backTo pos (starEach (e :: es) env)) []) P E s₂) E s₁) E s) :
    wpAny C.M A (eval (.Call (.Attribute (.Name y p) name p1) (e :: es) [] pos) env) P E s := by
  rw [arm_eval_Call]
  have hbase : attributeBase (.Name y p) name env (eval (.Name y p) env) = eval (.Name y p) env := rfl
  have hform : methodCallForm ((e :: es).length + ([] : List Keyword).length) (backTo pos (starEach (e :: es) env)) (backToKw pos (keywordEach [] env)) = true := by
    unfold methodCallForm
    rw [(plain_args hs).2]
    simp only [List.length_cons, List.length_nil, Bool.true_and]
    show ((true : Bool) && decide (es.length + 1 + 0 + 0 < 30)) = true
    simp; omega
  have hpos : methodCallPos true (.Name y p) env p1 pos = pure pos := by unfold methodCallPos; simp [hl]
  rw [hbase]
  refine wpAny_bind (wpAny_mono (h (do return (← importBound (.Name y p) env).getD true)) (fun ov s₁ h₁ => wpAny_bind (wpAny_standAt ?_)) fun _ _ x => x)
  unfold methodCall
  rw [hform]
  refine wpAny_bind (wpAny_holding ?_)
  show wpAny _ _ (getMethod ov name _) _ _ _
  refine wpAny_mono h₁ (fun fx s₂ h₂ => ?_) fun _ _ x => x
  exact wpAny_bind (wpAny_of_eq hpos h₂)
theorem Ev_meth {x y : Str} {f Cl : Addr} {fs : List (Str × D)} {e : Expr} {es : List Expr} {p p1 pos : Pos} {n : Nat} {Q : BS → R → Prop} (ok : C.Ok) (hv : vars.lookup y = some (.val (.inst Cl fs))) (hk : isVar F.sc y = true) (hm : MethOk C.K Cl x f) (hfs : fs.lookup x = none)
    (h : EvD C F vars bs (e :: es) fun b ds => Fn C n (.ref f) (.inst Cl fs :: ds) b Q) (hn : n ≤ F.n) (hs : (e :: es).all notStar = true) (hl : (p1.endLine == pos.line) = true) (hlen : es.length < 20) :
    Ev C F vars bs (.Call (.Attribute (.Name y p) x p1) (e :: es) [] pos) Q :=
  ⟨fun A env Ψ φ ρ s hA X => by
    obtain ⟨v, h1, h2⟩ := X.F.val y _ hv
    refine methodCall_at hs hl hlen fun pl => name_at X h1 ?_ hk
    obtain ⟨_, _, _, _, rfl, g1, g2, g3⟩ := Rep.inst_inv h2
    · skip
      obtain ⟨hg, hf, ht, hkp⟩ := hm
      refine method_fn (ok.here X.G) (instAt X.G g1 (X.G.fro _ _ g2)) (plainGet_of hg).1 (plainGet_of hg).2 hf (beq_iff_eq.mp ht) (by show (lookIn x (dictOf _ _)).map _ = _; rw [lookIn_dict, (repFs_none g3 hfs).1]; rfl) ?_
      refine callWith_ok ok hkp hA X h hs fun vs s' φ' bs' ds le X' hr hq => ?_
      exact wpAny_mono (call_in (vs := _ :: vs) hA hn X' (.cons ((Rep.inst g1 g2 g3).mono le) hr) hq) (fun v s'' ⟨φ'', b, r, le2, X'', h2, q⟩ => ⟨φ'', b, r, le.trans le2, X'', h2, q⟩) fun _ _ x => x⟩
/-- a function of a class, asked for by the class -/
structure ClsFn (K : Frag) (Cl : Addr) (x : Str) (f : Addr) : Prop where
  ga : specialIn K (.ref Cl) "__getattribute__" = some (some (.builtin "type.__getattribute__"))
  mc : ∃ mc, readsIn K Cl mc = true ∧ findCls K (.ref Cl) mc x = some (.val (.ref f))
  keep : keepIn K (.ref f) = true
theorem Ev_clsfn {x y : Str} {f Cl : Addr} {e : Expr} {es : List Expr} {p p1 pos : Pos} {n : Nat} {Q : BS → R → Prop} (ok : C.Ok) (hf : C.mg y = some (.ref Cl)) (hk : F.sc.names.lookup y = some .globalImplicit) (hdb : (y == ("__debug__" : Str)) = false) (hm : ClsFn C.K Cl x f)
    (h : EvD C F vars bs (e :: es) fun b ds => Fn C n (.ref f) ds b Q) (hn : n ≤ F.n) (hs : (e :: es).all notStar = true) (hl : (p1.endLine == pos.line) = true) (hlen : es.length < 20) :
    Ev C F vars bs (.Call (.Attribute (.Name y p) x p1) (e :: es) [] pos) Q :=
  ⟨fun A env Ψ φ ρ s hA X => by
    refine methodCall_at hs hl hlen fun pl => global_at ok X hf hk hdb ?_
    obtain ⟨hg, ⟨mc, h1, h2⟩, hkp⟩ := hm
    refine method_cls (ok.here X.G) hg (cls_value (ok.here X.G) h1 h2 rfl ?_)
    refine callWith_ok ok hkp hA X.tick h hs fun vs s' φ' bs' ds le X' hr hq => ?_
    exact wpAny_mono (call_in (vs := vs) hA hn X' hr hq) (fun v s'' ⟨φ'', b, r, le2, X'', h2, q⟩ => ⟨φ'', b, r, le.trans le2, X'', h2, q⟩) fun _ _ x => x⟩
/-- a class that is called by its name, or a function -/
theorem Ev_callK {y : Str} {f : Addr} {e : Expr} {es : List Expr} {p pos : Pos} {n : Nat} {Q : BS → R → Prop} (ok : C.Ok) (hf : C.mg y = some (.ref f)) (hkp : keepIn C.K (.ref f) = true) (hk : F.sc.names.lookup y = some .globalImplicit) (hdb : (y == ("__debug__" : Str)) = false)
    (h : EvD C F vars bs (e :: es) fun b ds => Fn C n (.ref f) ds b Q) (hn : n ≤ F.n) (hs : (e :: es).all notStar = true) :
    Ev C F vars bs (.Call (.Name y p) (e :: es) [] pos) Q :=
  ⟨fun A env Ψ φ ρ s hA X => by
    show wpAny C.M A (do callWith pos (← eval (.Name y p) env) [] (backTo pos (starEach (e :: es) env)) []) _ _ s
    refine wpAny_bind (global_at ok X hf hk hdb ?_)
    refine callWith_ok ok hkp hA X h hs fun vs s' φ' bs' ds le X' hr hq => ?_
    exact wpAny_mono (call_in (vs := vs) hA hn X' hr hq) (fun v s'' ⟨φ'', b, r, le2, X'', h2, q⟩ => ⟨φ'', b, r, le.trans le2, X'', h2, q⟩) fun _ _ x => x⟩
end
end Mine
end
section
set_option maxRecDepth 100000
set_option linter.unusedVariables false
namespace Mine
open PySem PySem.W PySem.Calls PyProof.Rows PySem.Spec
section
variable {prog : Program} {w : World} {A : Around} {K : Frag} {Cl x : Addr} {s : Shared} {R : Result → Shared → Prop}
theorem osa_direct {dx : Addr} {name : Str} {tk : Tok} {v : Value} {es : List DictEntry} {n : Nat} (X : K.In s.heap)
    (I : InstAt s.heap x (instObj Cl dx) Cl (some (dictOf es n))) (hp : plainOver K Cl = true) (ht : takerIn K Cl name = some none) (hh : hasDictIn K Cl = true)
    (hl : (getL name es).isSome = true) (hz : es.length ≤ 900)
    (h : ∀ h', (∀ b, b ≠ dx → h'.get? b = s.heap.get? b) → h'.get? dx = some (dictOf (putL name (PyData.keyHash w.params name) (.str name s.toks) v es) (putN name es n)) → R (.ok (.ret .none)) { s with heap := h', toks := s.toks + 1 }) :
    codeAny (model prog w) A (.call (.builtin "object.__setattr__") ⟨[.ref x, .str name tk, v], []⟩) R s := by
  refine osa_open X I hp ht fun b => ?_
  obtain ⟨cd, hc, hd'⟩ := any_some hh
  have D : s.heap.get? dx = some (dictOf es n) := I.dict
  have D' : (s.heap.update dx (Obj.putName name (PyData.keyHash w.params name) (.str name s.toks) v)).get? dx = some (dictOf (putL name (PyData.keyHash w.params name) (.str name s.toks) v es) (putN name es n)) := by
    rw [Heap.get?_update_self _ D (by rw [putName_dict]; rfl), putName_dict]
  obtain ⟨hx, hcl, hn, -⟩ := I
  refine wpAny_bind (wpAny_pure (wpAny_bind (wpAny_bind (wpAny_loadPart hx (wpAny_bind ((looks_clsIn X hc).here ?_))))))
  rw [hd']
  refine wpAny_pure (a := some dx) (wpAny_bind (wpAny_pure (wpAny_bind ?_)))
  unfold nsSet
  refine wpAny_bind (wpAny_bind (wpAny_askSetting (wpAny_pure (wpAny_bind (wpAny_mkText (wpAny_bind (wpAny_loadPart D ?_)))))))
  show wpAny _ _ (if aRefKeyMayBeTheName name es.toArray = true then _ else _) _ _ _
  have c : (!es.toArray.any (·.key.isStr name) && es.toArray.any (·.refKey)) = false := by
    rw [← Array.any_toList, ← Array.any_toList]
    unfold getL at hl
    split at hl
    · rename_i en he
      show (!es.any _ && es.any _) = false
      rw [List.any_eq_true.mpr ⟨en, List.mem_of_find?_eq_some he, List.find?_some he⟩]; rfl
    · split at hl
      · cases hl
      · rename_i z
        show (!es.any _ && es.any _) = false
        rw [Bool.not_eq_true] at z; rw [z, Bool.and_false]
  rw [aRefKeyMayBeTheName_at, c]
  have len : (putL name (PyData.keyHash w.params name) (.str name s.toks) v es).length ≤ es.length + 1 := by
    generalize PyData.keyHash w.params name = hs
    clear hl hz h D D' c X hp ht hh
    induction es with
    | nil => exact Nat.le_refl _
    | cons e r ih =>
      unfold putL
      split
      · simp
      · rw [List.length_cons, List.length_cons]; omega
  refine wpAny_updatePart D ?_
  refine wpAny_bind (wpAny_lookBehind D' (pastItsLine_dict (by rw [List.size_toArray, sizeLine_eq]; omega)) ?_)
  exact wpAny_pure (h _ (fun b q => Heap.get?_update_other _ _ (Ne.symm q)) D')
end
theorem putL_new {φ : Store} {β : Addr} {x : Str} {hsh : Int} {t : Tok} {v : Value} {d : D} (hv : Rep φ β v d) {es : List DictEntry} {fs : List (Str × D)} (r : RepFs φ β es fs) (h : fs.lookup x = none) : RepFs φ β (putL x hsh (.str x t) v es) (fs ++ [(x, d)]) := by
  induction fs generalizing es with
  | nil => rw [r.nil_inv]; exact .cons rfl hv .nil
  | cons p fs ih =>
    obtain ⟨e, es', t, q0, hk, hr, r⟩ := r.cons_inv
    rw [q0]
    by_cases q : x = p.1
    · rw [q, List.lookup_cons_self] at h; cases h
    · rw [lookup_ne' q] at h
      unfold putL
      rw [isStr_ne q hk, if_neg (by decide)]
      exact .cons hk hr (ih r h)
theorem repFs_len {φ : Store} {β : Addr} {es : List DictEntry} {fs : List (Str × D)} (r : RepFs φ β es fs) : es.length = fs.length := by
  induction fs generalizing es with
  | nil => rw [r.nil_inv]; rfl
  | cons p fs ih =>
    obtain ⟨e, es', t, q0, hk, hr, r⟩ := r.cons_inv
    rw [q0]; exact congrArg (· + 1) (ih r)
structure StoreOk (K : Frag) (Cl : Addr) (x : Str) : Prop where
  set : findIn K (.ref Cl) "__setattr__" = some (some (.builtin "object.__setattr__"))
  over : plainOver K Cl = true
  taker : takerIn K Cl x = some none
  dict : hasDictIn K Cl = true
section
variable {C : Cx} {F : Fm} {vars : Vars} {bs : BS}
/-- the shared thing is changed -/
theorem St.setBox {env : Env} {Ψ φ : Store} {ρ : Str → Option Value} {s : Shared} {p q : BX} {h : Heap} {tk : Nat} (X : St C F env Ψ φ ρ vars (some p) s) (hb : ∃ o, s.heap.get? C.β = some o ∧ ((∃ es n, o = dictOf es n ∧ C.β ≠ env.locals) ∨ ∃ us n, o = listOf us n))
    (hm : ∀ x es, vars.lookup x = some (.mu es) → ρ x ≠ some (.ref C.β)) (hc : ∀ x c, env.cells.lookup x = some c → c ≠ C.β)
    (hk : ∀ b, b ≠ C.β → h.get? b = s.heap.get? b) (hq : BoxIs h φ C.β q) : St C F env Ψ φ ρ vars (some q) { s with heap := h, toks := tk } := by
  obtain ⟨_, pφ, pΨ⟩ := X.G.box p rfl
  refine ⟨⟨X.G.base, fun b o e => ?_, fun b o e => ?_, X.G.sep, hq.obj, fun p' e => ?_, same_step X.G.same⟩, X.F.sc, X.F.kind, X.F.glob, X.F.blt, ?_, X.F.loc, ?_, ?_, X.F.fr, X.F.val, ?_, X.F.dis⟩
  · show h.get? b = some o
    rw [hk b (fun q => by rw [q, pφ] at e; cases e)]; exact X.G.fro b o e
  · show h.get? b = some o
    rw [hk b (fun q => by rw [q, pΨ] at e; cases e)]; exact X.G.pro b o e
  · cases e; exact ⟨hq, pφ, pΨ⟩
  · obtain ⟨m, ⟨o, es, ep, h1, h2, h3⟩, h4⟩ := X.F.ns
    exact ⟨m, ⟨o, es, ep, (hk _ X.F.loc.2.2).trans h1, h2, h3⟩, h4⟩
  · intro x v e1 e2
    obtain ⟨c, h1, o, h2, h3⟩ := X.F.cell x v e1 e2
    exact ⟨c, h1, o, (hk _ (hc x c h1)).trans h2, h3⟩
  · intro x hx
    obtain ⟨c, v, h1, ⟨o, h2, h3⟩, h4⟩ := X.F.own x hx
    exact ⟨c, v, h1, ⟨o, (hk _ (hc x c h1)).trans h2, h3⟩, h4⟩
  · intro x ds e
    obtain ⟨a, vs, n, h1, h2, h3, h4, h5, h6⟩ := X.F.mu x ds e
    exact ⟨a, vs, n, h1, (hk _ h6).trans h2, h3, h4, h5, h6⟩
theorem St.boxFree {env : Env} {Ψ φ : Store} {ρ : Str → Option Value} {s : Shared} {p : BX} (X : St C F env Ψ φ ρ vars (some p) s) : (∀ x es, vars.lookup x = some (.mu es) → ρ x ≠ some (.ref C.β)) ∧ (∀ x c, env.cells.lookup x = some c → c ≠ C.β) := by
  obtain ⟨_, pφ, pΨ⟩ := X.G.box p rfl
  refine ⟨fun x es e q => ?_, fun x c e q => ?_⟩
  · obtain ⟨a, vs, n, h1, _, _, _, _, h6⟩ := X.F.mu x es e
    rw [h1] at q; cases q; exact h6 rfl
  · by_cases hx : x ∈ F.ow
    · obtain ⟨c', v, h1, _, _, _, h5, _⟩ := X.F.own x hx
      rw [h1] at e; cases e; exact h5 q
    · obtain ⟨o, ho⟩ := X.F.fr x c e hx
      rw [q, pΨ] at ho; cases ho
/-- self.x = e, a new name -/
theorem Ex1_setattr {x y : Str} {p p1 pos : Pos} {Cl : Addr} {e : Expr} {Q : Vars → BS → Fl → Prop} (ok : C.Ok) (hv : vars.lookup y = some (.val (.self Cl))) (hk : isVar F.sc y = true) (hs : StoreOk C.K Cl x) (hc : true = true)
    (h : Ev C F vars bs e fun b r => ValK (fun d => ∃ fs, b = some (.flds fs) ∧ fs.lookup x = none ∧ fs.length ≤ 800 ∧ Q vars (some (.flds (fs ++ [(x, d)]))) .next) r.norm) :
    Ex1 C F vars bs (.Assign [.Attribute (.Name y p) x p1] e pos) Q :=
  ⟨fun A env Ψ φ ρ s hA X => by
    refine plainObj_wpAny_Assign_Attribute (wpAny_mono (one (K := fun b r => ValK (fun d => ∃ fs, b = some (.flds fs) ∧ fs.lookup x = none ∧ fs.length ≤ 800 ∧ Q vars (some (.flds (fs ++ [(x, d)]))) .next) r) h hA X) (fun v s1 ⟨φ1, b1, r, le1, X1, h1, k1⟩ => ?_) fun _ _ x => x) (by cases e <;> rfl)
    revert h1 k1
    generalize r.norm = r
    intro h1 k1
    cases r with
    | val d =>
      obtain ⟨fs, rfl, hn, hz, hq⟩ := k1
      obtain ⟨u, g1, g2⟩ := X1.F.val y _ hv
      refine name_at X1 g1 ?_ hk
      obtain ⟨_, rfl, g3⟩ := Rep.self_inv g2
      · skip
        obtain ⟨⟨es, n, b1, b2⟩, pφ, pΨ⟩ := X1.G.box _ rfl
        have hI := instAt X1.G g3 b1
        have X2 := X1.tick (tk := s1.toks + 1)
        obtain ⟨z1, z2⟩ := repFs_none b2 hn
        refine set_plain (ok.here X1.G) hI hs.set (osa_direct (s := { s1 with toks := s1.toks + 1 }) (ok.here X2.G) hI hs.over hs.taker hs.dict (by rw [z1]; rfl) (by rw [repFs_len b2]; omega) fun h' hk' hd' => ?_)
        obtain ⟨m1, m2⟩ := X1.boxFree
        refine ⟨φ1, ρ, vars, some (.flds (fs ++ [(x, d)])), .next, le1, X1.setBox (tk := s1.toks + 1 + 1) ⟨_, b1, .inl ⟨_, _, rfl, Ne.symm X1.F.loc.2.2⟩⟩ m1 m2 hk' ⟨_, _, hd', putL_new h1 b2 hn⟩, trivial, hq⟩
    | _ => exact k1.elim⟩
noncomputable def D.forget : D → D
  | .none => .none
  | .bool b => .bool b
  | .int i => .int i
  | .bytes ns => .bytes ns
  | _ => .any
theorem Rep.forget {φ : Store} {β β' : Addr} {v : Value} {d : D} (h : Rep φ β v d) : Rep φ β' v d.forget := by
  cases h with
  | none => exact .none
  | bool b => exact .bool b
  | int i t => exact .int i t
  | bytes t e => exact .bytes t e
  | _ => exact .any _
theorem RepFs.forget {φ : Store} {β β' : Addr} {es : List DictEntry} {fs : List (Str × D)} (r : RepFs φ β es fs) : RepFs φ β' es (fs.map fun p => (p.1, p.2.forget)) := by
  induction fs generalizing es with
  | nil => rw [r.nil_inv]; exact .nil
  | cons p fs ih =>
    obtain ⟨e, es', t, q0, hk, hr, r⟩ := r.cons_inv
    rw [q0]; exact .cons hk hr.forget (ih r)
noncomputable def D.flat : D → Bool
  | .none | .bool _ | .int _ | .bytes _ | .any => true
  | _ => false
theorem forget_flat {d : D} (h : d.flat = true) : d.forget = d := by cases d <;> first | rfl | cases h
theorem Reps.flat {φ : Store} {β β' : Addr} {vs : List Value} {ds : List D} (r : Reps φ β vs ds) (k : ds.all D.flat = true) : Reps φ β' vs ds := by
  induction ds generalizing vs with
  | nil => rw [Reps.nil_inv r]; exact .nil
  | cons d ds ih =>
    obtain ⟨v, ws, e, q, r⟩ := Reps.cons_inv r
    obtain ⟨k1, k2⟩ := Bool.and_eq_true_iff.mp (List.all_cons ▸ k)
    rw [e]; exact .cons (forget_flat k1 ▸ q.forget) (ih r k2)
abbrev Cx.at (C : Cx) (β : Addr) : Cx := { C with β := β }
theorem Cx.Ok.at {C : Cx} (ok : C.Ok) (β : Addr) : (C.at β).Ok := ⟨ok.g, ok.b, ok.builtins, ok.nolimit, ok.kin⟩
theorem type_call_weight (a : Addr) (tail : List Value) (kw : List (Str × Value)) : (Code.builtin "type.__call__" ⟨.ref a :: tail, kw⟩).weight = 1 := by kernel_rfl
theorem type_call_units (a : Addr) (tail : List Value) (kw : List (Str × Value)) : (Code.builtin "type.__call__" ⟨.ref a :: tail, kw⟩).cUnits = 1 := by kernel_rfl
theorem AOk.make {n : Nat} {A : Around} {a : Addr} {tail : List Value} {kw : List (Str × Value)} (h : AOk (n + 1) A) : AOk n (A.under (.builtin "type.__call__" ⟨.ref a :: tail, kw⟩)) := by
  refine ⟨h.1, ?_, ?_⟩
  · show A.depth + _ + _ + _ < _
    rw [type_call_weight]; have := h.2.1; omega
  · show A.units + _ + _ + _ < _
    rw [type_call_units]; have := h.2.2; omega
theorem Fn_class {Cl fI : Addr} {ds : List D} {n : Nat} {Q : BS → R → Prop} (ok : C.Ok) (hm : makesIn C.K Cl = true) (hi : findIn C.K (.ref Cl) "__init__" = some (some (.ref fI))) (hf : isFn C.K (.ref fI) = true) (hflat : ds.all D.flat = true)
    (h : ∀ β, Fn (C.at β) n (.ref fI) (.self Cl :: ds) (some (.flds [])) fun b r => r = .val .none ∧ ∃ fs, b = some (.flds fs) ∧ Q bs (.val (.inst Cl (fs.map fun p => (p.1, p.2.forget))))) : Fn C (n + 1) (.ref Cl) ds bs Q :=
  ⟨fun A Ψ φ s vs hA G hr => by
    have X := ok.here G
    obtain ⟨hh, g, d, t, os⟩ := s
    refine make_core (makes_of X hm) (looks_findIn X hi) (fun self => bind_fn X self (beq_iff_eq.mp hf)) (.inl rfl) ?_
    have nx : hh.get? (hh.objs.size + 1) = none := get?_ge (Nat.le_succ _)
    have nd : hh.get? hh.objs.size = none := get?_ge (Nat.le_refl _)
    have k : ∀ b o, hh.get? b = some o → ((hh.push emptyDict).push (instObj Cl hh.objs.size)).get? b = some o := fun b o e => Heap.get?_push_of_some _ (Heap.get?_push_of_some _ e)
    have hx : ((hh.push emptyDict).push (instObj Cl hh.objs.size)).get? (hh.objs.size + 1) = some (instObj Cl hh.objs.size) := by heap_get
    have hd : ((hh.push emptyDict).push (instObj Cl hh.objs.size)).get? hh.objs.size = some (dictOf [] 0) := by heap_get
    have G1 : GSt C Ψ φ bs ⟨(hh.push emptyDict).push (instObj Cl hh.objs.size), g, d, t, os⟩ := G.grow (tk := t) k
    have bn : ∀ a, hh.get? a = none → a ≠ C.β := by
      rintro a e rfl
      obtain ⟨o', e'⟩ := G.bex
      rw [show hh.get? C.β = some o' from e'] at e; cases e
    have G2 := G1.freeze hx (G.new nx).1 (G.new nx).2 (bn _ nx)
    obtain ⟨ob, hob⟩ := G1.bex
    have le1 : φ.Le (φ.put (hh.objs.size + 1) (instObj Cl hh.objs.size)) := Store.le_put (G.new nx).1
    -- the shared thing of the caller is protected, the new dict is the shared thing of the callee
    have dne : hh.objs.size ≠ hh.objs.size + 1 := by omega
    have key : ∃ Ψ' : Store, Ψ.Le Ψ' ∧ (φ C.β = none → Ψ' C.β = some ob) ∧ GSt (C.at hh.objs.size) Ψ' (φ.put (hh.objs.size + 1) (instObj Cl hh.objs.size)) (some (.flds [])) ⟨(hh.push emptyDict).push (instObj Cl hh.objs.size), g, d, t, os⟩ := by
      have phid : (φ.put (hh.objs.size + 1) (instObj Cl hh.objs.size)) hh.objs.size = none := by unfold Store.put; rw [if_neg dne]; exact (G.new nd).1
      have boxd : BoxIs ((hh.push emptyDict).push (instObj Cl hh.objs.size)) (φ.put (hh.objs.size + 1) (instObj Cl hh.objs.size)) hh.objs.size (.flds []) := ⟨[], 0, hd, .nil⟩
      cases hb : φ C.β with
      | some o => exact ⟨Ψ, fun b o e => e, fun e => (nomatch e), ⟨G2.base, G2.fro, G2.pro, G2.sep, ⟨_, hd⟩, fun p e => by cases e; exact ⟨boxd, phid, (G.new nd).2⟩, G2.same⟩⟩
      | none =>
        have bφ : (φ.put (hh.objs.size + 1) (instObj Cl hh.objs.size)) C.β = none := by unfold Store.put; rw [if_neg (Ne.symm (bn _ nx))]; exact hb
        refine ⟨Ψ.put C.β ob, fun b o e => ?_, fun _ => Store.put_self .., ⟨G2.base, G2.fro, fun b o e => ?_, fun b o e => ?_, ⟨_, hd⟩, fun p e => by cases e; exact ⟨boxd, phid, by unfold Store.put; rw [if_neg (bn _ nd)]; exact (G.new nd).2⟩, G2.same⟩⟩
        · unfold Store.put
          split
          · rename_i q; have := G1.pro b o e; rw [q, hob] at this; exact this
          · exact e
        · unfold Store.put at e
          split at e
          · rename_i q; cases e; rw [q]; exact hob
          · exact G2.pro b o e
        · unfold Store.put
          split
          · rename_i q; rw [q, bφ] at e; cases e
          · exact G2.sep b o e
    obtain ⟨Ψ', leΨ, hprot, G3⟩ := key
    have run := (h hh.objs.size).run _ Ψ' _ _ (.ref (hh.objs.size + 1) :: vs) (hA.make (a := Cl) (tail := vs) (kw := [])) G3 (.cons (.self (Store.put_self ..)) ((hr.mono le1).flat hflat))
    refine codeAny_mono run fun r s' z => ?_
    rcases r with e | (v | _ | _ | _) <;> first | exact z.elim | skip
    obtain ⟨φ', b', r, le2, G4, hv, rfl, fs, rfl, hq⟩ := z
    obtain ⟨⟨es, n', b1, b2⟩, pφ, pΨ⟩ := G4.box _ rfl
    refine ⟨by rw [Rep.none_inv hv], ?_⟩
    have un : ∀ b, Ψ' b = none → Ψ b = none := fun b e => by
      cases q : Ψ b with
      | none => rfl
      | some o => rw [leΨ b o q] at e; cases e
    have leD : φ'.Le (φ'.put hh.objs.size (dictOf es n')) := Store.le_put pφ
    have kb : s'.heap.get? C.β = some ob ∧ (φ C.β = none → φ' C.β = none) := by
      cases hb : φ C.β with
      | some o =>
        have e1 := G1.fro _ _ hb
        rw [hob] at e1
        exact ⟨(G4.fro _ _ (le2 _ _ (le1 _ _ hb))).trans e1.symm, fun e => (nomatch e)⟩
      | none =>
        have ho := hprot hb
        refine ⟨G4.pro _ _ ho, fun _ => ?_⟩
        cases q2 : φ' C.β with
        | none => rfl
        | some o2 => rw [G4.sep _ _ q2] at ho; cases ho
    refine ⟨φ'.put hh.objs.size (dictOf es n'), bs, .val (.inst Cl (fs.map fun p => (p.1, p.2.forget))), (le1.trans le2).trans leD, ?_, Rep.inst (leD _ _ (le2 _ _ (Store.put_self ..))) (Store.put_self ..) ((b2.mono leD).forget), hq⟩
    have bne : hh.objs.size ≠ C.β := bn _ nd
    refine ⟨fun b o e => leD _ _ (G4.base b o e), fun b o e => ?_, fun b o e => G4.pro b o (leΨ b o e), fun b o e => ?_, ?_, fun p e => ?_, ?_⟩
    · unfold Store.put at e
      split at e
      · rename_i q; cases e; rw [q]; exact b1
      · exact G4.fro b o e
    · unfold Store.put at e
      split at e
      · rename_i q; rw [q]; exact (G.new nd).2
      · exact un b (G4.sep b o e)
    · exact ⟨ob, kb.1⟩
    · obtain ⟨c1, c2, c3⟩ := G1.box p e
      obtain ⟨k1, k2⟩ := kb
      refine ⟨c1.keep (fun o ho => by rw [hob] at ho; exact k1.trans ho) ((le1.trans le2).trans leD), ?_, c3⟩
      unfold Store.put; rw [if_neg (Ne.symm bne)]; exact k2 c2
    · exact G4.same⟩
end
end Mine
end
section
set_option maxRecDepth 100000
set_option linter.unusedVariables false
namespace Mine
open PySem PySem.W PySem.Calls PyProof.Rows PySem.Spec
section
variable {prog : Program} {w : World} {A : Around} {E : Value → Shared → Prop} {s : Shared}
theorem setItem_at {l : Addr} {items : Array Value} {m : Nat} {k : Int} {t : Tok} {v : Value} {Q : Unit → Shared → Prop} (ho : s.heap.get? l = some (listOf items m))
    (h0 : 0 ≤ k) (hfit : k < 2 ^ 63) (hn : k < items.size)
    (hQ : ∀ h', h'.get? l = some (listOf (items.setIfInBounds k.toNat v) m) → Heap.SameBut l s.heap h' → Q () { s with heap := h' }) :
    wpAny (model prog w) A (setItem (.ref l) (.int k t) v) Q E s := by
  have hl : s.heap.IsList l items := IsListOf ho
  unfold setItem
  try with_reducible refine wpAny_holding ?_
  first | refine wpAny_bind (wpAny_pure ?_) | skip
  refine wpAny_bind (wpAny_sequenceKey hl.typeIs (by decide) ?_)
  refine wpAny_bind (wpAny_callSpecial?_slot (name := Str.ofString "__setitem__") hl.typeIs slot_list_setitem
    (wpAny_call_entry slot_list_setitem hl.typeIs entry_list_setitem ?_ (args_list_setitem _ _ _)))
  show wpAny _ _ (Builtin.List.listSubscript? (.int k t) >>= _) _ _ s
  refine wpAny_bind (wpAny_listSubscript_int (fitsIndex_of h0 hfit) ?_)
  clear hfit
  obtain ⟨j, rfl⟩ := Int.eq_ofNat_of_zero_le h0
  have hj : j < items.size := by omega
  have hx' : items[j]? = some items[j] := Array.getElem?_eq_getElem hj
  show wpAny _ _ ((seqItemAt l j >>= fun r => pure (r.map (j, ·))) >>= _) _ _ s
  refine wpAny_bind (wpAny_bind (wpAny_seqItemAt ho rfl (wpAny_pure ?_)))
  rw [hx']
  show wpAny _ _ (setSeqItemAt l j v >>= _) _ _ s
  have hfin : (s.heap.update l (Obj.mapSeq (·.setIfInBounds j v))).get? l = some (listOf (items.setIfInBounds j v) m) :=
    (Heap.get?_update_self (Obj.mapSeq (·.setIfInBounds j v)) ho (Obj.isFreed_of_seq (Obj.data_mapSeq (o := listOf items m) rfl (·.setIfInBounds j v)).choose_spec)).trans (by show some (Obj.mapSeq _ (listOf items m)) = _; simp [Obj.mapSeq])
  refine wpAny_bind (wpAny_setSeqItemAt ho rfl ?_)
  first
    | exact wpAny_bind (wpAny_pure (wpAny_pure ⟨.none, rfl, wpAny_pure (hQ _ hfin (Heap.SameBut.update ..))⟩))
    | exact wpAny_pure ⟨.none, rfl, wpAny_pure (hQ _ hfin (Heap.SameBut.update ..))⟩
end
section
variable {C : Cx} {F : Fm} {vars : Vars} {bs : BS}
/-- x[i] = e -/
theorem Ex1_setitem {x : Str} {p pos p1 : Pos} {i e : Expr} {ds : List D} {Q : Vars → BS → Fl → Prop} (hx : vars.lookup x = some (.mu ds)) (hk : isVar F.sc x = true) (hc : isComp e = false)
    (h : Ev C F vars bs e fun b r => ValK (fun d => Ev C F vars b i fun b2 r2 => IntK (fun k => 0 ≤ k ∧ k < ds.length ∧ ds.length < 2 ^ 40 ∧ Q ((x, .mu (ds.set k.toNat d)) :: vars) b2 .next) r2) r.norm) :
    Ex1 C F vars bs (.Assign [.Subscript (.Name x p) i p1] e pos) Q :=
  ⟨fun A env Ψ φ ρ s hA X => by
    refine wpAny_Assign_Subscript (wpAny_mono (one (K := fun b r => ValK (fun d => Ev C F vars b i fun b2 r2 => IntK (fun k => 0 ≤ k ∧ k < ds.length ∧ ds.length < 2 ^ 40 ∧ Q ((x, .mu (ds.set k.toNat d)) :: vars) b2 .next) r2) r) h hA X) (fun v s1 ⟨φ1, b1, r, le1, X1, h1, k1⟩ => ?_) fun _ _ x => x) (swaps_false hc)
    revert h1 k1
    generalize r.norm = r
    intro h1 k1
    cases r with
    | val d =>
      obtain ⟨a0, vs0, n0, g1, _⟩ := X1.F.mu x ds hx
      refine name_at X1 g1 ?_ hk
      refine wpAny_mono (k1.run A env Ψ φ1 ρ s1 hA X1) (fun u s2 ⟨φ2, b2, r2, le2, X2, h2, k2⟩ => ?_) fun _ _ x => x
      obtain ⟨a, vs, n, i1, i2, i3, _⟩ := X2.F.mu x ds hx
      rw [g1] at i1; cases i1
      have el := i3.length
      rw [Array.length_toList] at el
      obtain ⟨k, rfl, z0, z1, z2, hq⟩ := k2.get
      · obtain ⟨_, rfl⟩ := Rep.int_inv h2
        refine setItem_at i2 z0 (by omega) (by omega) fun h' hh hb => ?_
        exact ⟨φ2, ρ, _, b2, .next, le1.trans le2, X2.setOwn (tk := s2.toks) hx g1 i2 hb.extBut hh (by
          rw [Array.toList_setIfInBounds]
          exact i3.set (Rep.mono le2 h1)), trivial, hq⟩
    | _ => exact k1.elim⟩
/-- the two numbers of the shared list are read -/
theorem Ev_box {y : Str} {p p1 pos : Pos} {kk : Nat} {i : Int} {a b : Int} {Q : BS → R → Prop} (hv : vars.lookup y = some (.val .box)) (hk : isVar F.sc y = true) (hb : bs = some (.two a b)) (hi : i = 0 ∨ i = 1)
    (h : Q bs (.val (.int (if i = 0 then a else b)))) : Ev C F vars bs (.Subscript (.Name y p) (.Constant (.int i) kk p1) pos) Q :=
  ⟨fun A env Ψ φ ρ s hA X => by
    subst hb
    obtain ⟨v, g1, g2⟩ := X.F.val y _ hv
    obtain ⟨⟨u, u', n, hbox⟩, _⟩ := X.G.box _ rfl
    obtain rfl := Rep.box_inv g2
    have hl : s.heap.IsList C.β #[.int a u, .int b u'] := IsListOf hbox
    rw [eval_Subscript]
    refine wpAny_bind (name_at X g1 (wpAny_bind (wpAny_holding ?_)) hk)
    show wpAny _ _ (eval (.Constant (.int i) kk p1) env) _ _ _
    refine wpAny_Constant_int ?_
    have hl2 : ({ s with toks := s.toks + 1 } : Shared).heap.IsList C.β #[.int a u, .int b u'] := hl
    have hT := hl2.typeIs
    obtain ⟨id, hlk⟩ := look_of (r := .val (.list [])) rfl
    refine wpAny_bind (wpAny_standAt (wpAny_bind (inPy hT hlk ?_)))
    rw [subscripted_plain rfl]
    refine wpAny_bind (wpAny_operating ?_)
    rcases hi with rfl | rfl
    · exact wpAny_getItem_list hl2 (by decide) (by decide) (x := .int a u) rfl (wpAny_bind (wpAny_letTemporaryGo (wpAny_pure ⟨φ, _, .val (.int _), Store.Le.refl φ, X.tick, Rep.int _ _, h⟩)))
    · exact wpAny_getItem_list hl2 (by decide) (by decide) (x := .int b u') rfl (wpAny_bind (wpAny_letTemporaryGo (wpAny_pure ⟨φ, _, .val (.int _), Store.Le.refl φ, X.tick, Rep.int _ _, h⟩)))⟩
/-- a number of the shared list is changed -/
theorem Ex1_box {y : Str} {p p1 p2 pos : Pos} {kk : Nat} {i : Int} {e : Expr} {Q : Vars → BS → Fl → Prop} (hv : vars.lookup y = some (.val .box)) (hk : isVar F.sc y = true) (hi : i = 0 ∨ i = 1) (hc : isComp e = false)
    (h : Ev C F vars bs e fun b r => IntK (fun c => ∃ a1 a2, b = some (.two a1 a2) ∧ Q vars (some (if i = 0 then .two c a2 else .two a1 c)) .next) r) :
    Ex1 C F vars bs (.Assign [.Subscript (.Name y p) (.Constant (.int i) kk p1) p2] e pos) Q :=
  ⟨fun A env Ψ φ ρ s hA X => by
    refine wpAny_Assign_Subscript (wpAny_mono (h.run A env Ψ φ ρ s hA X) (fun v₀ s1 ⟨φ1, b1, r, le1, X1, h1, k1⟩ => ?_) fun _ _ x => x) (swaps_false hc)
    obtain ⟨c, rfl, a1, a2, rfl, hq⟩ := k1.get
    · skip
      obtain ⟨v, g1, g2⟩ := X1.F.val y _ hv
      obtain ⟨⟨u, u', n, hbox⟩, _⟩ := X1.G.box _ rfl
      obtain rfl := Rep.box_inv g2
      refine name_at X1 g1 ?_ hk
      refine wpAny_Constant_int ?_
      obtain ⟨m1, m2⟩ := X1.boxFree
      obtain ⟨tc, rfl⟩ : ∃ tc, v₀ = .int c tc := Rep.int_inv h1
      refine setItem_at (s := { s1 with toks := s1.toks + 1 }) hbox (by rcases hi with rfl | rfl <;> decide) (by rcases hi with rfl | rfl <;> decide) (by show i < ((2 : Nat) : Int); rcases hi with rfl | rfl <;> decide) fun h' hh hb => ?_
      refine ⟨φ1, ρ, vars, _, .next, le1, X1.setBox (tk := s1.toks + 1) ⟨_, hbox, .inr ⟨_, _, rfl⟩⟩ m1 m2 (fun b q => hb.2 b q) ?_, trivial, hq⟩
      rcases hi with rfl | rfl
      · exact ⟨tc, u', n, hh⟩
      · exact ⟨u, tc, n, hh⟩⟩
end
end Mine
end
section
set_option maxRecDepth 100000
set_option linter.unusedVariables false
namespace Mine
open PySem PySem.W PySem.Calls PyProof.Rows PySem.Spec
mutual
noncomputable def D.toP : D → PyData
  | .int i => .int i
  | .bool b => .bool b
  | .tuple ds => .tuple (toPs ds)
  | .list ds => .list (toPs ds)
  | _ => .none
noncomputable def toPs : List D → List PyData
  | [] => []
  | d :: ds => d.toP :: toPs ds
end
noncomputable def D.okN : Nat → D → Bool
  | _, .int _ => true
  | n + 1, .tuple ds => ds.all (D.okN n)
  | n + 1, .list ds => ds.all (D.okN n)
  | _, _ => false
inductive OkV : D → Nat → Prop
  | int (n : Nat) (i : Int) : OkV (.int i) n
  | tuple {n m : Nat} {ds : List D} (e : n = m + 1) (h : ∀ d ∈ ds, d.okN m = true) : OkV (.tuple ds) n
  | list {n m : Nat} {ds : List D} (e : n = m + 1) (h : ∀ d ∈ ds, d.okN m = true) : OkV (.list ds) n
theorem okN_v {d : D} {n : Nat} (h : d.okN n = true) : OkV d n := by
  cases d with
  | int i => exact .int _ _
  | tuple ds =>
    cases n with
    | zero => cases h
    | succ n => exact .tuple rfl (List.all_eq_true.mp h)
  | list ds =>
    cases n with
    | zero => cases h
    | succ n => exact .list rfl (List.all_eq_true.mp h)
  | _ => cases n <;> cases h
theorem reads_reps' {φ : Store} {β : Addr} {h : Heap} {n : Nat} (ih : ∀ {v d}, Rep φ β v d → d.okN n = true → ∃ as, Reads h v d.toP as) {ds : List D} : ∀ {vs : List Value}, Reps φ β vs ds → (∀ d ∈ ds, d.okN n = true) → ∃ as, ReadsAll h vs (toPs ds) as := by
  induction ds with
  | nil => intro vs r _; rw [Reps.nil_inv r]; exact ⟨_, .nil⟩
  | cons d ds ihd =>
    intro vs r k
    obtain ⟨v, ws, e, r1, r2⟩ := Reps.cons_inv r
    obtain ⟨as, g⟩ := ih r1 (k _ List.mem_cons_self)
    obtain ⟨bs, g'⟩ := ihd r2 fun d hd => k d (List.mem_cons_of_mem _ hd)
    rw [e]; exact ⟨_, .cons g g'⟩
theorem reads_rep {φ : Store} {β : Addr} {h : Heap} (hk : ∀ b o, φ b = some o → h.get? b = some o) (n : Nat) : ∀ {v : Value} {d : D}, Rep φ β v d → d.okN n = true → ∃ as, Reads h v d.toP as := by
  induction n with
  | zero =>
    intro v d r k
    cases okN_v k with
    | int n i => obtain ⟨t, e⟩ := Rep.int_inv r; rw [e]; exact ⟨_, .int i t⟩
    | tuple e h => cases e
    | list e h => cases e
  | succ n ih =>
    intro v d r k
    cases okN_v k with
    | int n i => obtain ⟨t, e⟩ := Rep.int_inv r; rw [e]; exact ⟨_, .int i t⟩
    | tuple e g =>
      obtain ⟨a, vs, m, q, q1, q2⟩ := Rep.tuple_inv r
      obtain ⟨as, w⟩ := reads_reps' ih q2 (Nat.succ.inj e ▸ g)
      rw [q]; exact ⟨_, .tuple (hk _ _ q1) rfl rfl (by simpa using w)⟩
    | list e g =>
      obtain ⟨a, vs, m, q, q1, q2⟩ := Rep.list_inv r
      obtain ⟨as, w⟩ := reads_reps' ih q2 (Nat.succ.inj e ▸ g)
      rw [q]; exact ⟨_, .list (hk _ _ q1) rfl rfl (by simpa using w)⟩
theorem reads_reps {φ : Store} {β : Addr} {h : Heap} (hk : ∀ b o, φ b = some o → h.get? b = some o) {vs : List Value} {ds : List D} (n : Nat) (r : Reps φ β vs ds) (k : ∀ d ∈ ds, d.okN n = true) : ∃ as, ReadsAll h vs (toPs ds) as :=
  reads_reps' (fun r k => reads_rep hk n r k) r k
theorem okN_lay : ∀ (n : Nat) (d : D), d.okN n = true → d.toP.canLay0 = true ∧ d.toP.depth ≤ n := by
  have all : ∀ (n : Nat), (∀ d : D, d.okN n = true → d.toP.canLay0 = true ∧ d.toP.depth ≤ n) → ∀ ds : List D, (∀ d ∈ ds, d.okN n = true) → PyData.canLayAll0 (toPs ds) = true ∧ PyData.depthAll (toPs ds) ≤ n := by
    intro n ih ds
    induction ds with
    | nil => intro _; exact ⟨rfl, Nat.zero_le _⟩
    | cons d ds ihs =>
      intro h
      have h1 := ih d (h d List.mem_cons_self)
      have h2 := ihs fun e he => h e (List.mem_cons_of_mem _ he)
      refine ⟨?_, Nat.max_le.mpr ⟨h1.2, h2.2⟩⟩
      rw [toPs, PyData.canLayAll0, h1.1, h2.1]; rfl
  intro n
  induction n with
  | zero =>
    intro d h
    cases okN_v h with
    | int n i => exact ⟨rfl, Nat.zero_le _⟩
    | tuple e g => cases e
    | list e g => cases e
  | succ n ih =>
    intro d h
    cases okN_v h with
    | int n i => exact ⟨rfl, Nat.zero_le _⟩
    | tuple e g =>
      have q := all n ih _ (Nat.succ.inj e ▸ g)
      exact ⟨q.1, by simp only [D.toP, PyData.depth]; lia⟩
    | list e g =>
      have q := all n ih _ (Nat.succ.inj e ▸ g)
      exact ⟨q.1, by simp only [D.toP, PyData.depth]; lia⟩
theorem okN_eqv : ∀ (n : Nat) (d e : D) (k : Nat), d.okN n = true → e.okN k = true → (PyData.eqv d.toP e.toP = true ↔ d = e) := by
  have all : ∀ (n : Nat), (∀ (d e : D) k, d.okN n = true → e.okN k = true → (PyData.eqv d.toP e.toP = true ↔ d = e)) → ∀ (k : Nat) (ds es : List D), (∀ d ∈ ds, d.okN n = true) → (∀ d ∈ es, d.okN k = true) →
      (PyData.eqvAll (toPs ds) (toPs es) = true ↔ ds = es) := by
    intro n ih k ds
    induction ds with
    | nil => intro es _ _; cases es with
      | nil => exact ⟨fun _ => rfl, fun _ => rfl⟩
      | cons e es => exact ⟨fun h => (nomatch h), fun h => (nomatch h)⟩
    | cons d ds ihs =>
      intro es h1 h2
      cases es with
      | nil => exact ⟨fun h => (nomatch h), fun h => (nomatch h)⟩
      | cons e es =>
        have q1 := ih d e k (h1 d List.mem_cons_self) (h2 e List.mem_cons_self)
        have q2 := ihs es (fun x hx => h1 x (List.mem_cons_of_mem _ hx)) (fun x hx => h2 x (List.mem_cons_of_mem _ hx))
        rw [toPs, toPs, PyData.eqvAll, Bool.and_eq_true, q1, q2, List.cons.injEq]
  have int : ∀ (i : Int) (e : D) (k : Nat), e.okN k = true → (PyData.eqv (D.int i).toP e.toP = true ↔ D.int i = e) := fun i e k he => by
    cases okN_v he with
    | int n j => simp [D.toP, PyData.eqv]
    | tuple e g => exact ⟨fun h => (by simp [D.toP, PyData.eqv] at h), fun h => nomatch h⟩
    | list e g => exact ⟨fun h => (by simp [D.toP, PyData.eqv] at h), fun h => nomatch h⟩
  intro n
  induction n with
  | zero =>
    intro d e k hd he
    cases okN_v hd with
    | int n i => exact int i e k he
    | tuple e g => cases e
    | list e g => cases e
  | succ n ih =>
    intro d e k hd he
    cases okN_v hd with
    | int n i => exact int i e k he
    | tuple q g =>
      cases okN_v he with
      | int n j => exact ⟨fun h => (by simp [D.toP, PyData.eqv] at h), fun h => nomatch h⟩
      | tuple q' g' => rw [D.toP, D.toP, PyData.eqv, all n ih _ _ _ (Nat.succ.inj q ▸ g) g', D.tuple.injEq]
      | list q' g' => exact ⟨fun h => (by simp [D.toP, PyData.eqv] at h), fun h => nomatch h⟩
    | list q g =>
      cases okN_v he with
      | int n j => exact ⟨fun h => (by simp [D.toP, PyData.eqv] at h), fun h => nomatch h⟩
      | tuple q' g' => exact ⟨fun h => (by simp [D.toP, PyData.eqv] at h), fun h => nomatch h⟩
      | list q' g' => rw [D.toP, D.toP, PyData.eqv, all n ih _ _ _ (Nat.succ.inj q ▸ g) g', D.list.injEq]
noncomputable def R.toD : R → Option D
  | .val d => some d
  | .bor _ ds => some (.list ds)
  | .own ds => some (.list ds)
section
variable {C : Cx} {F : Fm} {vars : Vars} {bs : BS} {k : R → Prop}
theorem reads_rv {env : Env} {Ψ φ : Store} {ρ : Str → Option Value} {s : Shared} {v : Value} {r : R} {d : D} {n : Nat} (X : St C F env Ψ φ ρ vars bs s) (h : RV C env Ψ φ ρ vars s v r) (hd : r.toD = some d) (ok : d.okN n = true) : ∃ as, Reads s.heap v d.toP as := by
  have lst : ∀ ds, r.items = some ds → d = .list ds → ∃ as, Reads s.heap v d.toP as := fun ds hi e => by
    subst e
    obtain ⟨a, vs, m, rfl, h1, h2⟩ := RV.view X h hi
    cases n with
    | zero => simp [D.okN] at ok
    | succ n =>
      obtain ⟨as, g⟩ := reads_reps X.G.fro n h2 (by simpa [D.okN] using ok)
      exact ⟨_, by rw [D.toP]; exact .list h1 rfl rfl g⟩
  cases r with
  | val d' => cases hd; exact reads_rep X.G.fro n h ok
  | bor x ds => cases hd; exact lst ds rfl rfl
  | own ds => cases hd; exact lst ds rfl rfl
theorem shaped_of {d : D} (h : d.okN 60 = true) : SeqAt.shaped d.toP = true := by
  obtain ⟨h1, h2⟩ := okN_lay 60 d h
  unfold SeqAt.shaped
  rw [h1]
  simp; omega
theorem eq_d {r1 r2 : R} {d e : D} (h1 : r1.toD = some d) (h2 : r2.toD = some e) (o1 : d.okN 60 = true) (o2 : e.okN 60 = true) (h : ∀ t, (t = true ↔ d = e) → k (.val (.bool t))) : Op2 C (compareOp .Eq) r1 r2 k :=
  ⟨fun n F A env Ψ φ ρ vars bs s v1 v2 hA X g1 g2 => by
    obtain ⟨as, ra⟩ := reads_rv X g1 h1 o1
    obtain ⟨bs', rb⟩ := reads_rv X g2 h2 o2
    exact eq_dataH ra rb (shaped_of o1) (shaped_of o2) (by have := hA.units; omega) ⟨φ, .val (.bool _), Store.Le.refl φ, X, Rep.bool _, h _ (okN_eqv 60 d e 60 o1 o2)⟩⟩
theorem ne_d {r1 r2 : R} {d e : D} (h1 : r1.toD = some d) (h2 : r2.toD = some e) (o1 : d.okN 60 = true) (o2 : e.okN 60 = true) (h : ∀ t, (t = true ↔ d ≠ e) → k (.val (.bool t))) : Op2 C (compareOp .NotEq) r1 r2 k :=
  ⟨fun n F A env Ψ φ ρ vars bs s v1 v2 hA X g1 g2 => by
    obtain ⟨as, ra⟩ := reads_rv X g1 h1 o1
    obtain ⟨bs', rb⟩ := reads_rv X g2 h2 o2
    exact ne_dataH ra rb (shaped_of o1) (shaped_of o2) (by have := hA.units; omega) ⟨φ, .val (.bool _), Store.Le.refl φ, X, Rep.bool _, h _ (by
      have := okN_eqv 60 d e 60 o1 o2
      rw [Bool.not_eq_true', ← Bool.not_eq_true, this])⟩⟩
theorem mem_toPs {d : D} {n m : Nat} (hd : d.okN n = true) : ∀ {ds : List D}, (∀ e ∈ ds, e.okN m = true) → ((toPs ds).any (fun y => PyData.eqv y d.toP) = true ↔ d ∈ ds)
  | [], _ => by simp [toPs]
  | e :: ds, h => by
    have ih := mem_toPs hd (ds := ds) fun x hx => h x (List.mem_cons_of_mem _ hx)
    have := okN_eqv m e d n (h e List.mem_cons_self) hd
    rw [toPs, List.any_cons, Bool.or_eq_true, this, ih, List.mem_cons, eq_comm]
theorem notin_d {r1 r2 : R} {d : D} {ds : List D} (h1 : r1.toD = some d) (h2 : r2.toD = some (.list ds)) (o1 : d.okN 20 = true) (o2 : ds.all (D.okN 20) = true) (h : ∀ t, (t = true ↔ d ∉ ds) → k (.val (.bool t))) : Op2 C (compareOp .NotIn) r1 r2 k :=
  ⟨fun n F A env Ψ φ ρ vars bs s v1 v2 hA X g1 g2 => by
    obtain ⟨as, ra⟩ := reads_rv X g1 h1 o1
    have o2' : (D.list ds).okN 21 = true := by simpa [D.okN] using o2
    obtain ⟨bs', rb⟩ := reads_rv X g2 h2 o2'
    obtain ⟨l1, l2⟩ := okN_lay _ _ o1
    obtain ⟨l3, l4⟩ := okN_lay _ _ o2'
    rw [D.toP] at rb
    have l3' : PyData.canLayAll0 (toPs ds) = true := by simpa [D.toP, PyData.canLay0] using l3
    refine SeqAt.notIn_list_reads rb ra l3' l1 (by have := hA.units; have := Nat.min_le_right (PyData.depthAll (toPs ds)) d.toP.depth; omega) ⟨φ, .val (.bool _), Store.Le.refl φ, X, Rep.bool _, h _ (by
      have := mem_toPs (m := 20) o1 (ds := ds) (by simpa using o2)
      rw [Bool.not_eq_true', ← Bool.not_eq_true, this])⟩⟩
end
end Mine
end
section
set_option maxRecDepth 100000
set_option linter.unusedVariables false
namespace Mine
open PySem PySem.W PySem.Calls PyProof.Rows PySem.Spec MeetsSeq
theorem reps1 {φ : Store} {β : Addr} {vs : List Value} {d : D} (h : Reps φ β vs [d]) : ∃ v, vs = [v] ∧ Rep φ β v d := by
  cases h with
  | cons h1 r => cases r; exact ⟨_, rfl, h1⟩
theorem reps2 {φ : Store} {β : Addr} {vs : List Value} {d e : D} (h : Reps φ β vs [d, e]) : ∃ v u, vs = [v, u] ∧ Rep φ β v d ∧ Rep φ β u e := by
  cases h with
  | cons h1 r => obtain ⟨u, rfl, h2⟩ := reps1 r; exact ⟨_, _, rfl, h1, h2⟩
section
variable {C : Cx} {F : Fm} {vars : Vars} {bs : BS} {k : R → Prop}
/-- several arguments, a call -/
structure OpD (C : Cx) (t : List Value → Sem Value) (ds : List D) (k : R → Prop) : Prop where
  run : ∀ n F A env Ψ φ ρ vars bs s vs, AOk n A → St C F env Ψ φ ρ vars bs s → Reps φ C.β vs ds →
    wpAny C.M A (t vs) (OpR C F env Ψ φ ρ vars bs k) (fun _ _ => False) s
inductive BltFn : Value → Prop
  | builtin (id : String) : BltFn (.builtin id)
  | type (T : String) : BltFn (.type T)
theorem callWith_blt {A : Around} {pos : Pos} {f : Value} {args : List (Bool × Sem Value)} {s : Shared} {P : Value → Shared → Prop} {E : Value → Shared → Prop} (hf : BltFn f) (hp : args.any (·.1) = false)
    (h : wpAny C.M A (evalArgs f true args []) (fun a s₁ => wpAny C.M A (call f a.pos a.kw) P E s₁) E s) : wpAny C.M A (callWith pos f [] args []) P E s := by
  cases hf with
  | builtin id => exact Calls.callWith_builtin hp (wpAny_mono h (fun _ _ x => x) fun _ _ x => x)
  | type T => exact PySem.callWith_type hp (wpAny_mono h (fun _ _ x => x) fun _ _ x => x)
theorem Ev_blt {x : Str} {f : Value} {e : Expr} {es : List Expr} {p pos : Pos} {Q : BS → R → Prop} (ok : C.Ok) (hg : C.mg x = none) (hv : bootBuiltins x = some f) (hn : x ≠ "__name__") (hf : BltFn f) (hk : F.sc.names.lookup x = some .globalImplicit) (hd : (x == ("__debug__" : Str)) = false)
    (hs : (e :: es).all notStar = true) (h : EvD C F vars bs (e :: es) fun b ds => OpD C (fun vs => call f vs []) ds (Q b)) : Ev C F vars bs (.Call (.Name x p) (e :: es) [] pos) Q :=
  ⟨fun A env Ψ φ ρ s hA X => by
    show wpAny C.M A (do callWith pos (← eval (.Name x p) env) [] (backTo pos (starEach (e :: es) env)) []) _ _ s
    refine wpAny_bind (builtin_at ok X hg hv hn hk hd ?_)
    refine callWith_blt hf (plain_args hs).1 (evalArgs_at hA X h (Bool.and_eq_true_iff.mp (List.all_cons ▸ hs)).1 fun vs s' φ' bs' ds le X' hr hq => ?_)
    exact wpAny_mono (hq.run _ _ _ _ _ _ _ _ _ _ _ hA X' hr) (fun v s2 ⟨φ2, r, le2, X2, h2, k2⟩ => ⟨φ2, bs', r, le.trans le2, X2, h2, k2⟩) fun _ _ x => x⟩
theorem Ev_blt1 {x : Str} {f : Value} {e : Expr} {p pos : Pos} {Q : BS → R → Prop} (ok : C.Ok) (hg : C.mg x = none) (hv : bootBuiltins x = some f) (hn : x ≠ "__name__") (hf : BltFn f) (hk : F.sc.names.lookup x = some .globalImplicit) (hd : (x == ("__debug__" : Str)) = false)
    (hs : notStar e = true) (h : Ev C F vars bs e fun b r => Op1 C (fun v => call f [v] []) r.norm (Q b)) : Ev C F vars bs (.Call (.Name x p) [e] [] pos) Q :=
  ⟨fun A env Ψ φ ρ s hA X => by
    show wpAny C.M A (do callWith pos (← eval (.Name x p) env) [] (backTo pos (starEach [e] env)) []) _ _ s
    refine wpAny_bind (builtin_at ok X hg hv hn hk hd ?_)
    refine callWith_blt hf (plain_args (by rw [List.all_cons, hs]; rfl)).1 ?_
    rw [starEach_plain hs]
    refine Calls.evalArgs_plain (Calls.spliced_cons (wpAny_mono (one (K := fun b r => Op1 C (fun v => call f [v] []) r (Q b)) h hA X) (fun v s1 ⟨φ1, b1, r, le1, X1, h1, k1⟩ => Calls.spliced_nil ?_) fun _ _ x => x))
    exact wpAny_mono (k1.run _ _ _ _ _ _ _ _ _ _ _ hA X1 h1) (fun v s2 ⟨φ2, r, le2, X2, h2, k2⟩ => ⟨φ2, b1, r, le1.trans le2, X2, h2, k2⟩) fun _ _ x => x⟩
/-- a new object that is frozen at once -/
theorem St.newFro {env : Env} {Ψ φ : Store} {ρ : Str → Option Value} {s : Shared} (X : St C F env Ψ φ ρ vars bs s) {a : Addr} {o : Obj} {h : Heap} {tk : Nat}
    (hk : ∀ b o, s.heap.get? b = some o → h.get? b = some o) (hn : s.heap.get? a = none) (ha : h.get? a = some o) : φ.Le (φ.put a o) ∧ St C F env Ψ (φ.put a o) ρ vars bs { s with heap := h, toks := tk } := by
  have Y : St C F env Ψ φ ρ vars bs { s with heap := h, toks := tk } := X.grow hk
  have hφ := (X.G.new hn).1
  refine ⟨Store.le_put hφ, Y.freeze ha hφ (X.G.new hn).2 (X.bne hn) ?_ ?_ ?_⟩
  · rintro rfl
    obtain ⟨m, ⟨o, es, ep, g, _⟩, _⟩ := X.F.ns
    rw [hn] at g; cases g
  · intro x hx e
    obtain ⟨c, v, g1, ⟨o, g2, _⟩, _⟩ := X.F.own x hx
    rw [g1] at e; cases e
    rw [hn] at g2; cases g2
  · intro x es e q
    obtain ⟨b, vs', n', h1, h2, _⟩ := X.F.mu x es e
    rw [h1] at q; cases q
    rw [hn] at h2; cases h2
theorem range_1 {n : Int} (h : k (.val (.range 0 n 1))) : OpD C (fun vs => call (.type "range") vs []) [.int n] k :=
  ⟨fun m F A env Ψ φ ρ vars bs s vs hA X hr => by
    obtain ⟨_, rfl, h1⟩ := reps1 hr
    obtain ⟨t, rfl⟩ := Rep.int_inv h1
    refine call_range_1 ?_
    obtain ⟨le, X2⟩ := X.newFro (tk := s.toks + 1 + 1) (fun b o e => Heap.get?_push_of_some _ e) get?_size (Heap.get?_push_size (o := { cls := .type "range", data := .fields #[.int 0 s.toks, .int n t, .int 1 (s.toks + 1)] }) _ rfl)
    exact ⟨_, .val (.range 0 n 1), le, X2, Rep.range (Store.put_self ..), h⟩⟩
theorem range_2 {a b : Int} (h : k (.val (.range a b 1))) : OpD C (fun vs => call (.type "range") vs []) [.int a, .int b] k :=
  ⟨fun m F A env Ψ φ ρ vars bs s vs hA X hr => by
    obtain ⟨_, _, rfl, h1, h2⟩ := reps2 hr
    obtain ⟨t, rfl⟩ := Rep.int_inv h1; obtain ⟨u, rfl⟩ := Rep.int_inv h2
    refine call_range_2 ?_
    obtain ⟨le, X2⟩ := X.newFro (tk := s.toks + 1) (fun b o e => Heap.get?_push_of_some _ e) get?_size (Heap.get?_push_size (o := { cls := .type "range", data := .fields #[.int a t, .int b u, .int 1 s.toks] }) _ rfl)
    exact ⟨_, .val (.range a b 1), le, X2, Rep.range (Store.put_self ..), h⟩⟩
theorem min_ii {a b : Int} (h : k (.val (.int (min a b)))) : OpD C (fun vs => call (.builtin "min") vs []) [.int a, .int b] k :=
  ⟨fun m F A env Ψ φ ρ vars bs s vs hA X hr => by
    obtain ⟨_, _, rfl, h1, h2⟩ := reps2 hr
    obtain ⟨t, rfl⟩ := Rep.int_inv h1; obtain ⟨u, rfl⟩ := Rep.int_inv h2
    refine min_two_ints hA.1 fun h' tk hk => ?_
    by_cases q : b < a
    · rw [if_pos q]; exact ⟨φ, .val (.int (min a b)), Store.Le.refl φ, X.grow hk, by rw [Int.min_eq_right (by lia)]; exact Rep.int _ _, h⟩
    · rw [if_neg q]; exact ⟨φ, .val (.int (min a b)), Store.Le.refl φ, X.grow hk, by rw [Int.min_eq_left (by lia)]; exact Rep.int _ _, h⟩⟩
theorem max_ii {a b : Int} (h : k (.val (.int (max a b)))) : OpD C (fun vs => call (.builtin "max") vs []) [.int a, .int b] k :=
  ⟨fun m F A env Ψ φ ρ vars bs s vs hA X hr => by
    obtain ⟨_, _, rfl, h1, h2⟩ := reps2 hr
    obtain ⟨t, rfl⟩ := Rep.int_inv h1; obtain ⟨u, rfl⟩ := Rep.int_inv h2
    refine max_two_ints hA.1 fun h' tk hk => ?_
    by_cases q : b > a
    · rw [if_pos q]; exact ⟨φ, .val (.int (max a b)), Store.Le.refl φ, X.grow hk, by rw [Int.max_eq_right (by lia)]; exact Rep.int _ _, h⟩
    · rw [if_neg q]; exact ⟨φ, .val (.int (max a b)), Store.Le.refl φ, X.grow hk, by rw [Int.max_eq_left (by lia)]; exact Rep.int _ _, h⟩⟩
theorem add_l {r1 r2 : R} {d1 d2 : List D} (h1 : r1.items = some d1) (h2 : r2.items = some d2) (hz : d1.length + d2.length ≤ 16777216) (h : k (.own (d1 ++ d2))) : Op2 C (binaryOp .Add) r1 r2 k :=
  ⟨fun m F A env Ψ φ ρ vars bs s v1 v2 hA X g1 g2 => by
    obtain ⟨a, vs, n, rfl, i1, i2⟩ := RV.view X g1 h1
    obtain ⟨b, ws, n2, rfl, j1, j2⟩ := RV.view X g2 h2
    have e1 := i2.length
    have e2 := j2.length
    rw [Array.length_toList] at e1 e2
    refine P.add_list (hsz := by rw [sizeLine_eq]; lia) i1 j1 ?_
    obtain ⟨X2, hv⟩ := X.newOwn (tk := s.toks) (a := s.heap.objs.size) (ds := d1 ++ d2) (fun b o e => Heap.get?_push_of_some _ e) get?_size (Heap.get?_push_size _ rfl) (by rw [Array.toList_append]; exact i2.append j2)
    exact ⟨φ, _, Store.Le.refl φ, X2, hv, h⟩⟩
noncomputable def rep {α : Type} (l : List α) (n : Nat) : List α := (List.replicate n l).flatten
theorem rep_foldl {α : Type} (l : Array α) : ∀ (n : Nat) (acc : Array α), (List.foldl (fun x1 x2 => x1 ++ x2) acc (List.replicate n l)).toList = acc.toList ++ rep l.toList n
  | 0, acc => by simp [rep]
  | n + 1, acc => by
    rw [List.replicate_succ, List.foldl_cons, rep_foldl l n]
    simp [rep, List.replicate_succ]
theorem Reps.rep {φ : Store} {β : Addr} {vs : List Value} {ds : List D} (h : Reps φ β vs ds) : ∀ n, Reps φ β (rep vs n) (rep ds n)
  | 0 => by simpa [Mine.rep] using Reps.nil
  | n + 1 => by
    have := Reps.append h (Reps.rep h n)
    simpa [Mine.rep, List.replicate_succ] using this
theorem mul_l {r1 : R} {d1 : List D} {x : Int} (h1 : r1.items = some d1) (hx : -(2 ^ 20) ≤ x ∧ x ≤ 2 ^ 20) (hz : d1.length * x.toNat ≤ 2 ^ 20) (h : k (.own (rep d1 x.toNat))) : Op2 C (binaryOp .Mult) r1 (.val (.int x)) k :=
  ⟨fun m F A env Ψ φ ρ vars bs s v1 v2 hA X g1 g2 => by
    obtain ⟨a, vs, n, rfl, i1, i2⟩ := RV.view X g1 h1
    have e1 := i2.length
    rw [Array.length_toList] at e1
    obtain ⟨u, rfl⟩ := Rep.int_inv g2
    refine wpAny_binaryOp_repeat_ref (T := "list") (U := "int") (by decide) ⟨_, i1, rfl⟩ (fun s' => typeIs_int s' x u) noFill_list_mul PySem.F.fills_int_mul PySem.F.slot_int_rmul repeat_list PySem.F.slot_int_index.lookup
      (call_meets PySem.F.slot_int_rmul (typeIs_int s x u) PySem.F.entry_int_rmul (PySem.F.args_int_rmul_2 _ _) (int___rmul___int_list x u a vs n)
        ⟨i1, rfl, ⟨_, i1, rfl⟩, call_meets PySem.F.slot_list_mul ⟨_, i1, rfl⟩ PySem.F.entry_list_mul (PySem.F.args_list_mul_2 _ _)
          (AutoListH.list___mul___list_int_3 a vs n x u (by simp [Builtin.List.listFitsIndex]; lia) (by rw [e1]; lia) (by simp [Builtin.List.listTooLong, sizeLine]; rw [e1]; lia))
          ⟨i1, ?_⟩⟩)
    have key : Reps φ C.β (List.foldl (fun x1 x2 => x1 ++ x2) #[] (List.replicate (if vs.isEmpty = true then 0 else x.toNat) vs)).toList (rep d1 x.toNat) := by
      rw [rep_foldl]
      by_cases q : vs.isEmpty = true
      · rw [if_pos q]
        have z : vs.toList = [] := by simpa using q
        rw [z] at i2
        cases i2
        have : ∀ n, rep ([] : List D) n = [] := fun n => by simp [rep]
        rw [this]; simpa [rep] using Reps.nil
      · rw [if_neg q]; simpa using i2.rep x.toNat
    obtain ⟨X2, hv⟩ := X.newOwn (tk := s.toks) (a := s.heap.objs.size) (ds := rep d1 x.toNat) (fun b o e => Heap.get?_push_of_some _ e) get?_size (Heap.get?_push_size _ rfl) key
    exact ⟨φ, _, Store.Le.refl φ, X2, hv, h⟩⟩
end
end Mine
end
section
set_option maxRecDepth 100000
set_option linter.unusedVariables false
namespace Mine
open PySem PySem.W PySem.Calls PyProof.Rows PySem.Spec MeetsSeq
theorem ints_are {φ : Store} {β : Addr} {vs : List Value} {ns : List Int} (r : Reps φ β vs (ns.map D.int)) : IntsAre vs ns := by
  induction ns generalizing vs with
  | nil => rw [Reps.nil_inv r]; exact .nil
  | cons n ns ih =>
    obtain ⟨v, ws, e, q, r⟩ := Reps.cons_inv r
    obtain ⟨t, g⟩ := Rep.int_inv q
    rw [e, g]; exact .cons _ _ (ih r)
theorem ints_rep {φ : Store} {β : Addr} {vs : List Value} {ns : List Int} (h : IntsAre vs ns) : Reps φ β vs (ns.map D.int) := by
  induction h with
  | nil => exact .nil
  | cons n t _ ih => exact .cons (.int n t) ih
theorem bInts_byteArr {ns : List Int} (h : ∀ n ∈ ns, 0 ≤ n ∧ n < 256) : KBw.bInts (byteArr ns) = ns := by
  unfold KBw.bInts byteArr
  rw [List.map_map]
  conv => rhs; rw [← List.map_id ns]
  apply List.map_congr_left
  intro n hn
  obtain ⟨h1, h2⟩ := h n hn
  show ((n.toNat.toUInt8).toNat : Int) = n
  rw [show (n.toNat.toUInt8).toNat = n.toNat % 256 from by simp]
  omega
section
variable {C : Cx} {F : Fm} {vars : Vars} {bs : BS} {k : R → Prop}
theorem sum_l {r : R} {ns : List Int} (hi : r.items = some (ns.map D.int)) (h : k (.val (.int ns.sum))) : Op1 C (fun v => call (.builtin "sum") [v] []) r k :=
  ⟨fun m F A env Ψ φ ρ vars bs s v hA X g => by
    obtain ⟨a, vs, n, rfl, i1, i2⟩ := RV.view X g hi
    have hI := ints_are i2
    obtain ⟨xs, hx⟩ := hI.allInts.items
    have hl' : s.heap.IsList a (intItems xs) := by
      have : vs = intItems xs := by rw [← hx]
      rw [← this]; exact IsListOf i1
    refine sum_intListG hA.1 hl' fun h' tk t' hk => ?_
    have e1 : ns = xs.toList.map (·.1) := by
      rw [← nums_intItems, ← hx]
      exact (show numsOf vs.toList.toArray.toList = ns from hI.numsOf).symm
    have e2 : preSum (numAt xs) xs.size = ns.sum := by
      rw [preSum_eq, List.take_of_length_le (by simp), e1]
    rw [e2]
    exact ⟨φ, .val (.int _), Store.Le.refl φ, X.grow hk, Rep.int _ _, h⟩⟩
theorem bytes_l {r : R} {ns : List Int} (hi : r.items = some (ns.map D.int)) (hb : ∀ n ∈ ns, 0 ≤ n ∧ n < 256) (hz : ns.length ≤ 1000000) (h : k (.val (.bytes ns))) : Op1 C (fun v => call (.type "bytes") [v] []) r k :=
  ⟨fun m F A env Ψ φ ρ vars bs s v hA X g => by
    obtain ⟨a, vs, n, rfl, i1, i2⟩ := RV.view X g hi
    have hI := ints_are i2
    have el := i2.length
    rw [List.length_map] at el
    refine call_bytes_ints (vs := vs.toList) (by simpa using IsListOf i1) hI hb (by rw [sizeLine_eq]; omega) hA.1 fun h' t tk hk => ?_
    exact ⟨φ, .val (.bytes ns), Store.Le.refl φ, X.grow hk, Rep.bytes _ (bInts_byteArr hb), h⟩⟩
/-- how many unlike ones -/
noncomputable def uniq (ns : List Int) : Nat := (ns.foldl step_dedup []).length
theorem firstMet_uniq (ns : List Int) : (firstMet (fun i => ns.getD i 0) ns.length).length = uniq ns := by
  unfold firstMet uniq
  congr 2
  apply List.ext_getElem?
  intro i
  by_cases hi : i < ns.length
  · simp [hi]
  · simp [hi]
theorem Ev_lenset {e : Expr} {p1 p2 pos1 pos2 : Pos} {Q : BS → R → Prop} (ok : C.Ok) (hg : C.mg ("len" : Str) = none) (hg2 : C.mg ("set" : Str) = none) (hk : F.sc.names.lookup ("len" : Str) = some .globalImplicit) (hk2 : F.sc.names.lookup ("set" : Str) = some .globalImplicit) (hs : notStar e = true)
    (h : Ev C F vars bs e fun b r => ∃ ns : List Int, r.norm.items = some (ns.map D.int) ∧ ns.length < 1000 ∧ Q b (.val (.int (uniq ns)))) :
    Ev C F vars bs (.Call (.Name "len" p1) [.Call (.Name "set" p2) [e] [] pos2] [] pos1) Q :=
  ⟨fun A env Ψ φ ρ s hA X => by
    show wpAny C.M A (do callWith pos1 (← eval (.Name "len" p1) env) [] (backTo pos1 (starEach [.Call (.Name "set" p2) [e] [] pos2] env)) []) _ _ s
    refine wpAny_bind (builtin_at (v := .builtin "len") ok X hg (by kernel_rfl) (by decide) hk (by decide) ?_)
    refine callWith_blt (.builtin _) rfl ?_
    refine Calls.evalArgs_plain (Calls.spliced_cons ?_)
    show wpAny C.M A (do callWith pos2 (← eval (.Name "set" p2) env) [] (backTo pos2 (starEach [e] env)) []) _ _ s
    refine wpAny_bind (builtin_at (v := .type "set") ok X hg2 (by kernel_rfl) (by decide) hk2 (by decide) ?_)
    refine callWith_blt (.type _) (plain_args (by rw [List.all_cons, hs]; rfl)).1 ?_
    rw [starEach_plain hs]
    refine Calls.evalArgs_plain (Calls.spliced_cons (wpAny_mono (one (K := fun b r => ∃ ns : List Int, r.items = some (ns.map D.int) ∧ ns.length < 1000 ∧ Q b (.val (.int (uniq ns)))) h hA X) (fun v s1 ⟨φ1, b1, r, le1, X1, h1, ns, hi, hz, hq⟩ => Calls.spliced_nil ?_) fun _ _ x => x))
    obtain ⟨a, vs, n, rfl, i1, i2⟩ := RV.view X1 h1 hi
    have el := i2.length
    rw [List.length_map, Array.length_toList] at el
    refine call_set_list hA.1 (IsListOf i1) (ints_are i2) (by rw [el]; show _ < scanBound; unfold scanBound; omega) fun h' tk hS hk => ?_
    have hk' : ∀ b o, s1.heap.get? b = some o → h'.get? b = some o := fun b o q => hk b o (Heap.lt_size q) q
    refine Calls.spliced_nil ?_
    obtain ⟨o, es, ep, t, ho, hex, hd, _, _, hlt, hf, hn⟩ := hS
    refine call_len_set (s := { s1 with heap := h', toks := tk }) ho hex hd hf (by unfold scanBound at hlt; omega) ?_
    rw [el, firstMet_uniq] at hn
    exact ⟨φ1, b1, .val (.int (uniq ns)), le1, X1.grow (tk := tk + 1 + 1) hk', by rw [hn]; exact Rep.int _ _, hq⟩⟩
end
end Mine
end
section
set_option maxRecDepth 100000
set_option linter.unusedVariables false
namespace Mine
open PySem PySem.W PySem.Calls PyProof.Rows PySem.Spec MeetsSeq
theorem bb_bytes : typeLookup (.type "bytes") "__bytes__" = pure (some (.builtin "bytes.__bytes__")) := by rw [typeLookup_type, builtinLookup_eq_fast]; kernel_rfl
section
variable {prog : Program} {w : World} {A : Around} {E : Value → Shared → Prop} {s : Shared}
theorem bb_new {b : Array UInt8} {t : Tok} {Q : Value → Shared → Prop} (h : Q (.bytes b t) s) :
    codeAny (model prog w) A (.call (.builtin "bytes.__new__") ⟨[.type "bytes", .bytes b t], []⟩) (wants Q E) s := by
  refine codeAny_of_tree ?_
  show wpAny _ A.in1 (do checkBuiltinCall "bytes.__new__" ⟨[.type "bytes", .bytes b t], []⟩; again (.builtin "bytes.__new__" ⟨[.type "bytes", .bytes b t], []⟩)) _ _ s
  refine wpAny_bind (wpAny_of_eq (PySem.F.bm_newCall _) (wpAny_pure ⟨plainId_quiet PySem.F.bm_plain _, codeAny_builtin PySem.F.bm_entry ?_⟩))
  rw [Around.under_plainId PySem.F.bm_plain _]
  have hT : s.TypeIs (.bytes b t) "bytes" := PySem.W.typeIs_bytes _ _ _
  unfold Builtin.«bytes.__new__»
  refine wpAny_bind (wpAny_of_eq (a := true) rfl ?_)
  refine bm_if_false rfl ?_
  refine wpAny_bind (wpAny_of_eq PySem.F.bm_sub ?_)
  refine bm_if_false rfl ?_
  refine wpAny_bind (wpAny_of_eq (PySem.F.bm_bind _) ?_)
  refine wpAny_bind (wpAny_of_eq (a := ()) rfl ?_)
  refine wpAny_bind (wpAny_of_eq (a := ()) rfl ?_)
  refine bm_if_false rfl ?_
  refine wpAny_bind (wpAny_specialOf hT bb_bytes ?_)
  refine wpAny_bind (wpAny_rule ?_)
  refine wpAny_bind (wpAny_typeOf hT ?_)
  refine bm_if_true rfl ?_
  exact wpAny_pure h
theorem call_bytes_bytes {b : Array UInt8} {t : Tok} {Q : Value → Shared → Prop} (h : Q (.bytes b t) s) : wpAny (model prog w) A (call (.type "bytes") [.bytes b t]) Q E s := by
  refine callType_codes (Q₁ := fun obj s₁ => s₁.TypeIs obj "bytes" ∧ Q obj s₁) PySem.F.bm_called (PySem.F.bm_typeCall _) PySem.F.entry_object_init
    (bb_new ⟨PySem.W.typeIs_bytes _ _ _, h⟩) fun obj s₁ h₁ => ?_
  exact ⟨h₁.1, PySem.F.args_object_init_2 obj _, object_init_meets PySem.F.bm_called.init.lookup PySem.F.bm_called.made (by decide) prog w A.in1 _ s₁ ⟨h₁.1, rfl, h₁.2⟩⟩
end
section
variable {C : Cx} {F : Fm} {vars : Vars} {bs : BS} {k : R → Prop}
theorem bytes_b {ns : List Int} (h : k (.val (.bytes ns))) : Op1 C (fun v => call (.type "bytes") [v] []) (.val (.bytes ns)) k :=
  ⟨fun m F A env Ψ φ ρ vars bs s v hA X g => by
    obtain ⟨_, t, rfl, e⟩ := Rep.bytes_inv g
    exact call_bytes_bytes ⟨φ, .val (.bytes ns), Store.Le.refl φ, X, Rep.bytes t e, h⟩⟩
theorem item_t {ds : List D} {d : D} {i : Int} (h0 : 0 ≤ i) (h1 : i < 2 ^ 40) (hd : ds[i.toNat]? = some d) (h : k (.val d)) : Op2 C getItem (.val (.tuple ds)) (.val (.int i)) k :=
  ⟨fun m F A env Ψ φ ρ vars bs s v1 v2 hA X g1 g2 => by
    obtain ⟨_, rfl⟩ := Rep.int_inv g2
    obtain ⟨a, vs, n, rfl, e, r⟩ := Rep.tuple_inv g1
    · skip
      obtain ⟨u, e1, hu⟩ := r.get hd
      have hsz : i.toNat < vs.toArray.size := by
        have := (List.getElem?_eq_some_iff.mp e1).1
        simpa using this
      refine getItem_tuple (t := a) (items := vs.toArray) (j := i.toNat) (IsTupOf (X.G.fro _ _ e)) (by omega) (by omega) ?_ (by simpa using e1) ⟨φ, .val _, Store.Le.refl φ, X, hu, h⟩
      have z : ¬ i < 0 := by omega
      simp only [seqIndex?, if_neg z]
      rw [if_pos]
      simp only [Bool.and_eq_true, decide_eq_true_eq]
      omega⟩
theorem Itr_tuple {ax I : Addr} {vs : List Value} {xs : List D} {n : Nat} : Itr C [I] I xs (fun _ => True) (fun i φ h => h.IsTupleIter I ax i ∧ φ ax = some (tupOf vs.toArray n) ∧ Reps φ C.β vs xs) where
  frame := fun i φ φ' h h' ⟨h1, h2, h3⟩ le hp => by
    obtain ⟨o, g1, g2⟩ := h1
    exact ⟨⟨o, (hp I (List.mem_singleton.mpr rfl)).trans g1, g2⟩, le _ _ h2, h3.mono le⟩
  item := fun i φ d A s target E P hA _ ⟨h1, h2, h3⟩ hfro hφ hx hP => by
    obtain ⟨v, hv, hr⟩ := h3.get hx
    refine wpAny_pyNext_tuple_item h1 (IsTupOf (hfro _ _ h2)) (by simpa using hv) fun h' hit hb => ?_
    refine ⟨v, rfl, ?_⟩
    obtain ⟨o, g1, g2, g3⟩ := id hit
    refine letGo_plain ⟨o, g1, g2, g3⟩ (by decide) (hP v h' s.toks (fun b o m e => hb.extBut b o (fun q => m (List.mem_singleton.mpr q)) e) ⟨hit, h2, h3⟩ (fun a m => ?_) (.inl hr))
    obtain rfl := List.mem_singleton.mp m
    exact ⟨o, (), g1, .inl ⟨_, g3⟩⟩
  done := fun i φ A s E P hA ⟨h1, h2, h3⟩ hfro hφ hx hP => by
    refine wpAny_pyNext_tuple_end hA h1 (IsTupOf (hfro _ _ h2)) ?_ fun h' hb => ⟨rfl, hP h' s.toks fun b o m e => hb b o (fun q => m (List.mem_singleton.mpr q)) e⟩
    have e1 := h3.length
    have e2 := List.getElem?_eq_none_iff.mp hx
    simp; omega
  self := fun i φ A s E P ⟨h1, _⟩ hP => wpAny_pyIter_tupleiter h1 hP
theorem ItOk_tuple {ds : List D} : ItOk C (.val (.tuple ds)) ds :=
  ⟨fun n F A env Ψ φ ρ vars bs s v hA X h => by
    obtain ⟨a, vs, n, rfl, h1, h2⟩ := Rep.tuple_inv h
    · skip
      refine wpAny_pyIter_tuple (IsTupOf (X.G.fro _ _ h1)) ?_
      refine ⟨[s.heap.objs.size], s.heap.objs.size, _, rfl, ⟨_, s.toks, rfl, fun b o e => Heap.get?_push_of_some _ e⟩, Itr_tuple (ax := a) (vs := vs) (n := n), ⟨⟨_, Heap.get?_push_size _ rfl, rfl, rfl⟩, h1, h2⟩, fun b m => ?_⟩
      obtain rfl := List.mem_singleton.mp m
      exact ⟨get?_size, ⟨_, (), Heap.get?_push_size _ rfl, .inl ⟨_, rfl⟩⟩⟩⟩
end
end Mine
end
section
set_option maxRecDepth 100000
set_option linter.unusedVariables false
namespace Mine
open PySem PySem.W PySem.Calls PyProof.Rows PySem.Spec MeetsSeq
abbrev ByteAt (b : Array UInt8) (i : Nat) (v : Value) : Prop := ∃ c u, b[i]? = some c ∧ v = .int (c.toNat : Int) u
section
variable {prog : Program} {w : World} {A : Around} {E : Value → Shared → Prop} {s : Shared}
end
section
variable {C : Cx} {k : R → Prop}
end
end Mine
end
section
set_option maxRecDepth 100000
set_option linter.unusedVariables false
namespace Mine
open PySem PySem.W PySem.Calls PyProof.Rows PySem.Spec MeetsSeq
theorem len1 {α : Type} {l : List α} (h : l.length = 1) : ∃ a, l = [a] := List.length_eq_one_iff.mp h
theorem lenS {α : Type} {l : List α} {n : Nat} (h : l.length = n + 1) : ∃ a m, l = a :: m ∧ m.length = n := by
  cases l with
  | nil => cases h
  | cons a m => exact ⟨a, m, rfl, Nat.succ.inj h⟩
theorem len2 {α : Type} {l : List α} (h : l.length = 2) : ∃ a b, l = [a, b] := by obtain ⟨a, m, rfl, h'⟩ := lenS h; obtain ⟨b, rfl⟩ := len1 h'; exact ⟨a, b, rfl⟩
theorem len3 {α : Type} {l : List α} (h : l.length = 3) : ∃ a b c, l = [a, b, c] := by obtain ⟨a, m, rfl, h'⟩ := lenS h; obtain ⟨b, c, rfl⟩ := len2 h'; exact ⟨a, b, c, rfl⟩
theorem len4 {α : Type} {l : List α} (h : l.length = 4) : ∃ a b c d, l = [a, b, c, d] := by obtain ⟨a, m, rfl, h'⟩ := lenS h; obtain ⟨b, c, d, rfl⟩ := len3 h'; exact ⟨a, b, c, d, rfl⟩
theorem len5 {α : Type} {l : List α} (h : l.length = 5) : ∃ a b c d e, l = [a, b, c, d, e] := by obtain ⟨a, m, rfl, h'⟩ := lenS h; obtain ⟨b, c, d, e, rfl⟩ := len4 h'; exact ⟨a, b, c, d, e, rfl⟩
noncomputable def fdAt (K : Frag) (a : Addr) : Option FuncData := match K.lookup a with
  | some ⟨_, _, .func fd, _⟩ => some fd
  | _ => none
noncomputable def bodyAt (K : Frag) (a : Addr) : List Stmt := match K.lookup a with
  | some ⟨_, _, .func fd, _⟩ => (match fd.body with | .stmts b => b | _ => [])
  | _ => []
noncomputable def scAt (K : Frag) (a : Addr) : Scope := match K.lookup a with
  | some ⟨_, _, .func fd, _⟩ => fd.scope
  | _ => default
noncomputable def isStmts : FuncBody → Bool
  | .stmts _ => true
  | _ => false
noncomputable def defOk (K : Frag) (a : Addr) : Bool := match K.lookup a with
  | some ⟨_, _, .func fd, _⟩ => fd.closure.isEmpty && fd.globals == mainGlobals && fd.builtins == builtinsNs && codeIn K fd.code fd.qualname && isStmts fd.body
  | _ => false
theorem DefAt.of {C : Cx} (ok : C.Ok) {f : Addr} {xs : List Str} (h : defOk C.K f = true)
    (hb : ∀ fd, fdAt C.K f = some fd → ∀ vs, vs.length = xs.length → ∀ s : Shared, C.K.In s.heap → BindsTo s fd ⟨vs, []⟩ (xs.zip vs)) : DefAt C f xs (bodyAt C.K f) (scAt C.K f) := by
  unfold defOk at h
  split at h
  · rename_i oc od fd sl ho
    simp only [Bool.and_eq_true, beq_iff_eq, List.isEmpty_iff] at h
    obtain ⟨⟨⟨⟨h1, h2⟩, h3⟩, h4⟩, h5⟩ := h
    have e1 : bodyAt C.K f = (match fd.body with | .stmts b => b | _ => []) := by unfold bodyAt; rw [ho]
    have e2 : scAt C.K f = fd.scope := by unfold scAt; rw [ho]
    have e3 : fdAt C.K f = some fd := by unfold fdAt; rw [ho]
    refine ⟨⟨oc, od, .func fd, sl⟩, fd, ok.kin _ _ ho, rfl, e2.symm, ?_, h1, h2, h3, codeRec_of ok.kin h4, fun s vs hk hl => hb fd e3 vs hl s (ok.kin.keeps hk)⟩
    rw [e1]
    revert h5
    cases fd.body <;> intro h5 <;> first | rfl | cases h5
  · cases h
theorem mg_of {C : Cx} (ok : C.Ok) {x : Str} {r : Option Value} (h : nsIn C.K mainGlobals x = some r) : C.mg x = r := by
  obtain ⟨o, es, ep, h1, h2, h3, h4⟩ := ok.g
  unfold nsIn at h
  split at h
  · rename_i oc od es' n' sl ho
    have := ok.kin _ _ ho
    rw [h1] at this
    cases this
    cases h2
    rw [← h4 x]
    unfold nsFind findBy
    rw [← Array.find?_toList]
    split at h
    · rename_i e he
      rw [he]; cases h; rfl
    · rename_i he
      rw [he]
      split at h
      · cases h
      · cases h; rfl
  · cases h
theorem bindsN {C : Cx} {s : Shared} {fd : FuncData} {vs : List Value} {binds : List (Str × Value)} (X : C.K.In s.heap) (e : ∀ S, peek C.K S (bindArgs fd ⟨vs, []⟩) = some binds) : BindsTo s fd ⟨vs, []⟩ binds :=
  fun M _ _ _ q => (Looks.of_peek (M := M) X (e _)).here q
end Mine
end
section
set_option maxRecDepth 100000
set_option linter.unusedVariables false
namespace Mine
open PySem PySem.W PySem.Calls PyProof.Rows PySem.Spec MeetsSeq
noncomputable def SubV (L v : Vars) : Prop := ∀ x sl, L.lookup x = some sl → v.lookup x = some sl
theorem SubV.nil {v : Vars} : SubV [] v := fun _ _ h => nomatch h
theorem SubV.cons {x : Str} {sl : Slot} {L v : Vars} (h : v.lookup x = some sl) (k : SubV L v) : SubV ((x, sl) :: L) v := fun y s e => by
  by_cases q : y = x
  · subst q; rw [lookup_self] at e; cases e; exact h
  · rw [lookup_ne q] at e; exact k y s e
theorem SubV.all {L v : Vars} (h : (L.map fun p => v.lookup p.1) = L.map fun p => some p.2) : SubV L v := by
  induction L with
  | nil => exact SubV.nil
  | cons p L ih =>
    rw [List.map_cons, List.map_cons, List.cons.injEq] at h
    exact SubV.cons h.1 (ih h.2)
section
variable {C : Cx} {F : Fm} {vars : Vars} {bs : BS}
/-- a for over what enumerate or zip tell, by states -/
theorem Ex1_forS_src {α : Type} {target iter : Expr} {body orelse : List Stmt} {pos : Pos} {Q : Vars → BS → Fl → Prop} (P : List D → α → Prop) (L : α → Vars) (B : α → BS)
    (hi : Src C F vars bs target iter fun b xs => ∃ a, P xs a ∧ SubV (L a) vars ∧ b = B a)
    (turn : ∀ x rest a, P (x :: rest) a → ∀ I : Vars → BS → Prop, (∀ v2 b2, (∃ a', P rest a' ∧ SubV (L a') v2 ∧ b2 = B a') → I v2 b2) → ∃ nv, bindT target x = some nv ∧ Ex C F (nv ++ L a) (B a) body (TurnK I Q))
    (done : ∀ a, P [] a → Ex C F (L a) (B a) orelse Q) (ht : tgtOk F target = true) (hs : notSetE iter = true) : Ex1 C F vars bs (.For target iter body orelse pos) Q :=
  Ex1_for_src (fun xs v b => ∃ a, P xs a ∧ SubV (L a) v ∧ b = B a) hi
    (fun x rest v b ⟨a, h1, h2, h3⟩ => by
      obtain ⟨nv, k1, k2⟩ := turn x rest a h1 _ fun _ _ x => x
      subst h3
      refine ⟨nv, k1, Ex_weak (vars' := nv ++ L a) (fun y sl e => ?_) k2⟩
      clear k1 k2
      induction nv with
      | nil => exact h2 y sl e
      | cons q nv ih =>
        obtain ⟨z, s2⟩ := q
        by_cases w : y = z
        · subst w
          rw [List.cons_append, lookup_self] at e ⊢
          exact e
        · rw [List.cons_append, lookup_ne w] at e ⊢
          exact ih e)
    (fun v b ⟨a, h1, h2, h3⟩ => by subst h3; exact Ex_weak h2 (done a h1)) ht hs
theorem Ex1_forS {α : Type} {target iter : Expr} {body orelse : List Stmt} {pos : Pos} {Q : Vars → BS → Fl → Prop} (P : List D → α → Prop) (L : α → Vars) (B : α → BS)
    (hi : Ev C F vars bs iter fun b r => ∃ xs a, ItOk C r.norm xs ∧ P xs a ∧ SubV (L a) vars ∧ b = B a)
    (turn : ∀ x rest a, P (x :: rest) a → ∀ I : Vars → BS → Prop, (∀ v2 b2, (∃ a', P rest a' ∧ SubV (L a') v2 ∧ b2 = B a') → I v2 b2) → ∃ nv, bindT target x = some nv ∧ Ex C F (nv ++ L a) (B a) body (TurnK I Q))
    (done : ∀ a, P [] a → Ex C F (L a) (B a) orelse Q) (ht : tgtOk F target = true) (hs : notSetE iter = true) : Ex1 C F vars bs (.For target iter body orelse pos) Q :=
  Ex1_forS_src P L B (Src_ev (hi.mono fun b r ⟨xs, a, h1, h2⟩ => ⟨xs, h1, a, h2⟩)) turn done ht hs
theorem Ex1_whileS {α : Type} {test : Expr} {body orelse : List Stmt} {pos : Pos} {Q : Vars → BS → Fl → Prop} (P : α → Prop) (L : α → Vars) (B : α → BS) (μ : α → Nat)
    (h0 : ∃ a, P a ∧ SubV (L a) vars ∧ bs = B a)
    (turn : ∀ a, P a → ∀ I : Vars → BS → Prop, (∀ v2 b2, (∃ a', μ a' < μ a ∧ P a' ∧ SubV (L a') v2 ∧ b2 = B a') → I v2 b2) → Ts C F (L a) (B a) test fun b' c => (c = true → Ex C F (L a) b' body (TurnK I Q)) ∧ (c = false → Ex C F (L a) b' orelse Q)) : Ex1 C F vars bs (.While test body orelse pos) Q :=
  ⟨fun A env Ψ φ ρ s hA X => by
    obtain ⟨a0, p0, s0, rfl⟩ := h0
    refine wpAny_While (codeAny_whileLoop (fun n s' => ∃ φ' ρ' a, φ.Le φ' ∧ St C F env Ψ φ' ρ' (L a) (B a) s' ∧ P a ∧ μ a = n) (fun n s1 ⟨φ1, ρ1, a, le1, X1, i1, im⟩ => ?_) (μ a0) ⟨φ, ρ, a0, Store.Le.refl φ, X.weaken s0, p0, rfl⟩)
    refine wpAny_mono ((turn a i1 _ fun _ _ x => x).run A env Ψ φ1 ρ1 s1 hA X1) (fun c s2 ⟨φ2, b2, le2, X2, k2⟩ => ?_) fun _ _ x => x.elim
    cases c with
    | true =>
      refine wpAny_mono ((k2.1 rfl).run A env Ψ φ2 ρ1 s2 hA X2) (fun f s3 ⟨φ3, ρ3, v3, b3, fl, le3, X3, h3, k3⟩ => ?_) fun _ _ x => x.elim
      have le := (le1.trans le2).trans le3
      cases f with
      | next => cases fl <;> first | exact h3.elim | (obtain ⟨a', hm, hp, hs, rfl⟩ := k3; exact ⟨μ a', im ▸ hm, φ3, ρ3, a', le, X3.weaken hs, hp, rfl⟩)
      | cont => cases fl <;> first | exact h3.elim | (obtain ⟨a', hm, hp, hs, rfl⟩ := k3; exact ⟨μ a', im ▸ hm, φ3, ρ3, a', le, X3.weaken hs, hp, rfl⟩)
      | brk => cases fl <;> first | exact h3.elim | exact ⟨φ3, ρ3, v3, b3, .next, le, X3, trivial, k3⟩
      | ret v => cases fl <;> first | exact h3.elim | exact ⟨φ3, ρ3, v3, b3, _, le, X3, h3, k3⟩
    | false =>
      refine wpAny_mono ((k2.2 rfl).run A env Ψ φ2 ρ1 s2 hA X2) (fun f s3 ⟨φ3, ρ3, v3, b3, fl, le3, X3, h3, k3⟩ => ?_) fun _ _ x => x.elim
      exact ⟨φ3, ρ3, v3, b3, fl, (le1.trans le2).trans le3, X3, h3, k3⟩⟩
end
end Mine
end
section
set_option maxRecDepth 100000
set_option linter.unusedVariables false
namespace Mine
open PySem PySem.W PySem.Calls PyProof.Rows PySem.Spec MeetsSeq
section
variable {C : Cx} {F : Fm} {vars : Vars} {bs : BS} {e : Expr} {es : List Expr} {p pos : Pos} {Q : BS → R → Prop}
theorem Ev_len (ok : C.Ok) (hg : nsIn C.K mainGlobals ("len" : Str) = some none) (hk : F.sc.names.lookup ("len" : Str) = some .globalImplicit) (hs : notStar e = true) (h : Ev C F vars bs e fun b r => Op1 C (fun v => call (.builtin "len") [v] []) r.norm (Q b)) : Ev C F vars bs (.Call (.Name ("len" : Str) p) [e] [] pos) Q :=
  Ev_blt1 ok (mg_of ok hg) (by kernel_rfl) (by decide) (.builtin _) hk (by decide) hs h
theorem Ev_sum (ok : C.Ok) (hg : nsIn C.K mainGlobals ("sum" : Str) = some none) (hk : F.sc.names.lookup ("sum" : Str) = some .globalImplicit) (hs : notStar e = true) (h : Ev C F vars bs e fun b r => Op1 C (fun v => call (.builtin "sum") [v] []) r.norm (Q b)) : Ev C F vars bs (.Call (.Name ("sum" : Str) p) [e] [] pos) Q :=
  Ev_blt1 ok (mg_of ok hg) (by kernel_rfl) (by decide) (.builtin _) hk (by decide) hs h
theorem Ev_sorted (ok : C.Ok) (hg : nsIn C.K mainGlobals ("sorted" : Str) = some none) (hk : F.sc.names.lookup ("sorted" : Str) = some .globalImplicit) (hs : notStar e = true) (h : Ev C F vars bs e fun b r => Op1 C (fun v => call (.builtin "sorted") [v] []) r.norm (Q b)) : Ev C F vars bs (.Call (.Name ("sorted" : Str) p) [e] [] pos) Q :=
  Ev_blt1 ok (mg_of ok hg) (by kernel_rfl) (by decide) (.builtin _) hk (by decide) hs h
theorem Ev_bytes (ok : C.Ok) (hg : nsIn C.K mainGlobals ("bytes" : Str) = some none) (hk : F.sc.names.lookup ("bytes" : Str) = some .globalImplicit) (hs : notStar e = true) (h : Ev C F vars bs e fun b r => Op1 C (fun v => call (.type "bytes") [v] []) r.norm (Q b)) : Ev C F vars bs (.Call (.Name ("bytes" : Str) p) [e] [] pos) Q :=
  Ev_blt1 ok (mg_of ok hg) (by kernel_rfl) (by decide) (.type _) hk (by decide) hs h
theorem Ev_range (ok : C.Ok) (hg : nsIn C.K mainGlobals ("range" : Str) = some none) (hk : F.sc.names.lookup ("range" : Str) = some .globalImplicit) (hs : (e :: es).all notStar = true) (h : EvD C F vars bs (e :: es) fun b ds => OpD C (fun vs => call (.type "range") vs []) ds (Q b)) : Ev C F vars bs (.Call (.Name ("range" : Str) p) (e :: es) [] pos) Q :=
  Ev_blt ok (mg_of ok hg) (by kernel_rfl) (by decide) (.type _) hk (by decide) hs h
theorem Ev_min (ok : C.Ok) (hg : nsIn C.K mainGlobals ("min" : Str) = some none) (hk : F.sc.names.lookup ("min" : Str) = some .globalImplicit) (hs : (e :: es).all notStar = true) (h : EvD C F vars bs (e :: es) fun b ds => OpD C (fun vs => call (.builtin "min") vs []) ds (Q b)) : Ev C F vars bs (.Call (.Name ("min" : Str) p) (e :: es) [] pos) Q :=
  Ev_blt ok (mg_of ok hg) (by kernel_rfl) (by decide) (.builtin _) hk (by decide) hs h
theorem Ev_max (ok : C.Ok) (hg : nsIn C.K mainGlobals ("max" : Str) = some none) (hk : F.sc.names.lookup ("max" : Str) = some .globalImplicit) (hs : (e :: es).all notStar = true) (h : EvD C F vars bs (e :: es) fun b ds => OpD C (fun vs => call (.builtin "max") vs []) ds (Q b)) : Ev C F vars bs (.Call (.Name ("max" : Str) p) (e :: es) [] pos) Q :=
  Ev_blt ok (mg_of ok hg) (by kernel_rfl) (by decide) (.builtin _) hk (by decide) hs h
/-- a name of the text's top that stands for a function or a class -/
theorem Ev_fun {y : Str} {f : Addr} {n : Nat} (ok : C.Ok) (hf : nsIn C.K mainGlobals y = some (some (.ref f))) (hkp : keepIn C.K (.ref f) = true) (hk : F.sc.names.lookup y = some .globalImplicit) (hdb : (y == ("__debug__" : Str)) = false) (hn : n ≤ F.n) (hs : (e :: es).all notStar = true)
    (h : EvD C F vars bs (e :: es) fun b ds => Fn C n (.ref f) ds b Q) :
    Ev C F vars bs (.Call (.Name y p) (e :: es) [] pos) Q := Ev_callK ok (mg_of ok hf) hkp hk hdb h hn hs
theorem Ev_top {x : Str} {i : Int} {t : Tok} (ok : C.Ok) (hf : nsIn C.K mainGlobals x = some (some (.int i t))) (hk : F.sc.names.lookup x = some .globalImplicit) (hd : (x == ("__debug__" : Str)) = false) (h : Q bs (.val (.int i))) : Ev C F vars bs (.Name x pos) Q := Ev_global ok (mg_of ok hf) hk hd h
end
section
variable {C : Cx} {F : Fm} {vars : Vars} {bs : BS}
theorem Ex1_expr {e : Expr} {pos : Pos} {Q : Vars → BS → Fl → Prop} (hc : isComp e = false) (h : Ev C F vars bs e fun b r => r = .val .none ∧ Q vars b .next) : Ex1 C F vars bs (.Expr e pos) Q :=
  ⟨fun A env Ψ φ ρ s hA X => by
    refine wpAny_Expr (wpAny_mono (h.run A env Ψ φ ρ s hA X) (fun v s1 ⟨φ1, b1, r, le1, X1, h1, k0, k1⟩ => by subst k0; cases h1; exact ⟨φ1, ρ, vars, b1, .next, le1, X1, trivial, k1⟩) fun _ _ x => x) ?_ ?_
    · unfold interactive; rw [X.F.sc, X.F.kind]; rfl
    · exact swaps_none hc⟩
theorem Ev_dict0 {pos : Pos} {Q : BS → R → Prop} (h : Q bs (.val .any)) : Ev C F vars bs (.Dict [] [] pos) Q :=
  ⟨fun A env Ψ φ ρ s hA X => wpAny_Dict_empty ⟨φ, bs, .val .any, Store.Le.refl φ, X.grow (tk := s.toks) fun b o e => Heap.get?_push_of_some _ e, Rep.any _, h⟩⟩
end
/-- how far two places are alike -/
noncomputable def alikeF (oc : List Int) (p o : Nat) : Nat → Nat → Nat
  | 0, k => k
  | j + 1, k => if oc[p + k]? = oc[o + k]? then alikeF oc p o j (k + 1) else k
noncomputable def lenN (oc : List Int) (p o m : Nat) : Nat := alikeF oc p o (min m (oc.length - p)) 0
noncomputable def repN (oc : List Int) (w p d m : Nat) : Nat := if d < 1 ∨ p < d ∨ w < d then 0 else lenN oc p (p - d) m
end Mine
end
section
set_option maxRecDepth 100000
set_option linter.unusedVariables false
namespace Mine
open PySem PySem.W PySem.Calls PyProof.Rows PySem.Spec MeetsSeq
noncomputable def D.isInt : D → Bool
  | .int _ => true
  | _ => false
noncomputable def D.flat2 : D → Bool
  | .list ds => ds.all D.isInt
  | d => d.flat
theorem isInt_eq {d : D} (h : d.isInt = true) : ∃ i, d = .int i := by
  cases d with
  | int i => exact ⟨i, rfl⟩
  | _ => cases h
theorem Reps.ints2 {φ : Store} {β β' : Addr} {vs : List Value} {ds : List D} (r : Reps φ β vs ds) (k : ds.all D.isInt = true) : Reps φ β' vs ds := by
  induction ds generalizing vs with
  | nil => rw [Reps.nil_inv r]; exact .nil
  | cons d ds ih =>
    obtain ⟨v, ws, e, q, r⟩ := Reps.cons_inv r
    obtain ⟨k1, k2⟩ := Bool.and_eq_true_iff.mp (List.all_cons ▸ k)
    obtain ⟨i, g⟩ := isInt_eq k1
    rw [g] at q
    obtain ⟨t, g2⟩ := Rep.int_inv q
    rw [e, g, g2]; exact .cons (.int _ _) (ih r k2)
theorem flat2_cases {d : D} (hf : d.flat2 = true) : d.flat = true ∨ ∃ ds, d = .list ds ∧ ds.all D.isInt = true := by
  cases d with
  | list ds => exact .inr ⟨ds, rfl, hf⟩
  | _ => exact .inl hf
theorem Rep.flat2 {φ : Store} {β β' : Addr} {v : Value} {d : D} (h : Rep φ β v d) (hf : d.flat2 = true) : Rep φ β' v d := by
  rcases flat2_cases hf with q | ⟨ds, e, q⟩
  · exact forget_flat q ▸ h.forget
  · rw [e] at h ⊢
    obtain ⟨a, vs, n, g, h1, h2⟩ := Rep.list_inv h
    rw [g]; exact .list h1 (h2.ints2 q)
theorem flat2_ints (ns : List Int) : (D.list (ns.map D.int)).flat2 = true := by
  show (ns.map D.int).all D.isInt = true
  rw [List.all_eq_true]
  intro d hd
  obtain ⟨i, _, rfl⟩ := List.mem_map.mp hd
  rfl
noncomputable def flatSlot : Slot → Bool
  | .val d => d.flat2
  | _ => false
noncomputable def FlatRet (Q : D → Prop) : Fl → Prop
  | .ret (.val d) => d.flat = true ∧ Q d
  | _ => False
section
variable {C : Cx} {F : Fm} {vars : Vars}
/-- one's own list of two ints becomes the shared one -/
theorem Ex_box {x : Str} {a b : Int} {vars' : Vars} {ss : List Stmt} {Q : D → Prop} (hβ : ∃ o, C.H.get? C.β = some o) (hx : vars.lookup x = some (.mu [.int a, .int b])) (hv : SubV vars' vars) (hf : vars'.all (fun p => flatSlot p.2) = true)
    (h : ∀ β, Ex (C.at β) F ((x, .val .box) :: vars') (some (.two a b)) ss fun _ _ f => FlatRet Q f) : Ex C F vars none ss fun _ _ f => FlatRet Q f :=
  ⟨fun A env Ψ φ ρ s hA X => by
    obtain ⟨l, vs, n, h1, h2, h3, h4, h5, h6⟩ := X.F.mu x _ hx
    obtain ⟨oβ, hoβ⟩ := hβ
    have φβ := X.G.base _ _ hoβ
    have hval : ∀ y d, vars'.lookup y = some (.val d) → ∃ v, ρ y = some v ∧ Rep φ l v d := fun y d e => by
      obtain ⟨v, g1, g2⟩ := X.F.val y d (hv y _ e)
      refine ⟨v, g1, ?_⟩
      have hfl : d.flat2 = true := List.all_eq_true.mp hf _ (lookup_mem' e)
      exact g2.flat2 hfl
    have hnm : ∀ y es, vars'.lookup y ≠ some (.mu es) := fun y es e => by
      have := List.all_eq_true.mp hf _ (lookup_mem' e); cases this
    have hbox : BoxIs s.heap φ l (.two a b) := by
      obtain ⟨vs⟩ := vs
      obtain ⟨v1, w1, e1, r1, q1⟩ := Reps.cons_inv h3
      obtain ⟨v2, w2, e2, r2, q2⟩ := Reps.cons_inv q1
      obtain ⟨t1, g1⟩ := Rep.int_inv r1
      obtain ⟨t2, g2⟩ := Rep.int_inv r2
      have e : vs = [v1, v2] := by have := Reps.nil_inv q2; rw [this] at e2; rw [e2] at e1; exact e1
      rw [e, g1, g2] at h2
      exact ⟨_, _, _, h2⟩
    have X2 : St (C.at l) F env Ψ φ ρ ((x, .val .box) :: vars') (some (.two a b)) s := by
      refine ⟨⟨X.G.base, X.G.fro, X.G.pro, X.G.sep, ⟨_, h2⟩, fun p e => by cases e; exact ⟨hbox, h4, h5⟩, X.G.same⟩, X.F.sc, X.F.kind, X.F.glob, X.F.blt, X.F.ns, ⟨X.F.loc.1, X.F.loc.2.1, Ne.symm (X.ne_loc h2)⟩, X.F.cell, fun y hy => ?_, X.F.fr, fun y d e => ?_, fun y es e => ?_, fun y z es fs e => ?_⟩
      · obtain ⟨c, v, g1, g2, g3, g4, g5, g6⟩ := X.F.own y hy
        exact ⟨c, v, g1, g2, g3, g4, fun q => X.ne_cell h2 y hy (by rw [g1]; exact congrArg some q), g6⟩
      · by_cases q : y = x
        · subst q; rw [lookup_self] at e; cases e; exact ⟨_, h1, .box⟩
        · rw [lookup_ne q] at e; exact hval y d e
      · exfalso
        by_cases q : y = x
        · subst q; rw [lookup_self] at e; cases e
        · rw [lookup_ne q] at e; exact hnm y es e
      · exfalso
        by_cases q : y = x
        · subst q; rw [lookup_self] at e; cases e
        · rw [lookup_ne q] at e; exact hnm y es e
    refine wpAny_mono ((h l).run A env Ψ φ ρ s hA X2) (fun f s' ⟨φ', ρ', v', b', fl, le, X', hfv, hq⟩ => ?_) fun _ _ x => x
    have φβ' := le _ _ φβ
    have X3 : St C F env Ψ φ' ρ' [] none s' := by
      refine ⟨⟨X'.G.base, X'.G.fro, X'.G.pro, X'.G.sep, ⟨_, X'.G.fro _ _ φβ'⟩, fun p e => (nomatch e), X'.G.same⟩, X'.F.sc, X'.F.kind, X'.F.glob, X'.F.blt, X'.F.ns, ⟨X'.F.loc.1, X'.F.loc.2.1, fun q => by have := X'.F.loc.1; rw [q, φβ'] at this; cases this⟩, X'.F.cell, fun y hy => ?_, X'.F.fr, fun y d e => (nomatch e), fun y es e => (nomatch e), fun y z es fs e => (nomatch e)⟩
      obtain ⟨c, v, g1, g2, g3, g4, g5, g6⟩ := X'.F.own y hy
      have hne : c ≠ C.β := fun q => by rw [q, φβ'] at g3; cases g3
      exact ⟨c, v, g1, g2, g3, g4, hne, g6⟩
    cases fl with
    | ret r =>
      cases r with
      | val d =>
        obtain ⟨k1, k2⟩ := hq
        refine ⟨φ', ρ', [], none, .ret (.val d), le, X3, ?_, k1, k2⟩
        cases f with
        | ret v =>
          have : Rep φ' l v d := hfv
          exact (forget_flat k1 ▸ this.forget : Rep φ' C.β v d)
        | _ => exact hfv.elim
      | _ => exact hq.elim
    | _ => exact hq.elim⟩
end
end Mine
end
section
set_option maxRecDepth 100000
set_option linter.unusedVariables false
namespace Mine
open PySem PySem.W PySem.Calls PyProof.Rows PySem.Spec MeetsSeq
/-- the ints from a up, n of them -/
noncomputable def upto (a : Int) (n : Nat) : List Int := (List.range n).map fun (i : Nat) => a + (i : Int)
theorem rangeI_up (a b : Int) : rangeI a b 1 = upto a (b - a).toNat := by
  unfold rangeI upto
  rw [rangeSize_one]
  split
  · simp
  · rw [show (b - a).toNat = 0 by omega]; rfl
theorem upto_length (a : Int) (n : Nat) : (upto a n).length = n := by simp [upto]
theorem upto_succ (a : Int) (n : Nat) : upto a (n + 1) = a :: upto (a + 1) n := by
  unfold upto
  rw [List.range_succ_eq_map, List.map_cons, List.map_map]
  congr 1
  · simp
  · apply List.map_congr_left; intro i _; simp; omega
theorem ItOk_up {C : Cx} {a b : Int} (ha : -(2 ^ 40) ≤ a ∧ a ≤ 2 ^ 40) (hb : -(2 ^ 40) ≤ b ∧ b ≤ 2 ^ 40) : ItOk C (.val (.range a b 1)) ((upto a (b - a).toNat).map D.int) := by
  rw [← rangeI_up]; exact ItOk_range ha hb (by decide) (by decide)
end Mine
end
section
set_option maxRecDepth 100000
set_option linter.unusedVariables false
namespace Mine
open PySem PySem.W PySem.Calls PyProof.Rows PySem.Spec MeetsSeq
section
variable {C : Cx} {F : Fm} {vars : Vars} {bs : BS}
/-- what a statement leaves, told once for all its ways -/
theorem Ex_cut {α : Type} {st : Stmt} {rest : List Stmt} {Q : Vars → BS → Fl → Prop} (P : α → Prop) (L : α → Vars) (B : α → BS) (h : ∀ I : Vars → BS → Prop, (∀ v b, (∃ a, P a ∧ SubV (L a) v ∧ b = B a) → I v b) → Ex1 C F vars bs st (NextK I Q))
    (k : ∀ a, P a → Ex C F (L a) (B a) rest Q) : Ex C F vars bs (st :: rest) Q :=
  Ex_cons ((h _ fun _ _ x => x).mono fun v b fl hh => by
    cases fl with
    | next => obtain ⟨a, h1, h2, rfl⟩ := hh; exact Ex_weak h2 (k a h1)
    | _ => exact hh)
end
theorem cut_take {α : Type} {l : List α} {n : Int} (h0 : 0 ≤ n) : cut none (some n) l = l.take n.toNat := by
  unfold cut
  simp only [Option.elim, List.drop_zero, Nat.sub_zero]
  by_cases q : n.toNat ≤ l.length
  · congr 1; unfold clipAt; omega
  · rw [List.take_of_length_le, List.take_of_length_le]
    · lia
    · unfold clipAt; lia
theorem cut_map {α β : Type} (f : α → β) (lo hi : Option Int) (l : List α) : cut lo hi (l.map f) = (cut lo hi l).map f := by
  simp [cut, List.map_take, List.map_drop]
theorem rep_length {α : Type} (l : List α) : ∀ n, (rep l n).length = l.length * n
  | 0 => by simp [rep]
  | n + 1 => by
    have := rep_length l n
    simp only [rep, List.replicate_succ, List.flatten_cons, List.length_append] at this ⊢
    rw [this, Nat.mul_succ]; lia
theorem rep_map {α β : Type} (f : α → β) (l : List α) (n : Nat) : rep (l.map f) n = (rep l n).map f := by
  simp [rep, List.map_flatten]
theorem mem_rep {α : Type} {l : List α} {n : Nat} {a : α} (h : a ∈ rep l n) : a ∈ l := by
  unfold rep at h
  obtain ⟨m, h1, h2⟩ := List.mem_flatten.mp h
  rw [(List.mem_replicate.mp h1).2] at h2; exact h2
/-- only the letters a, b and c -/
noncomputable def Lets (ls : List Int) : Prop := ∀ c ∈ ls, 97 ≤ c ∧ c ≤ 99
theorem Lets.app {a b : List Int} (h : Lets a) (k : Lets b) : Lets (a ++ b) := fun c hc => (List.mem_append.mp hc).elim (h c) (k c)
theorem Lets.take {a : List Int} (h : Lets a) (n : Nat) : Lets (a.take n) := fun c hc => h c (List.mem_of_mem_take hc)
theorem Lets.drop {a : List Int} (h : Lets a) (n : Nat) : Lets (a.drop n) := fun c hc => h c (List.mem_of_mem_drop hc)
theorem Lets.rep {a : List Int} (h : Lets a) (n : Nat) : Lets (rep a n) := fun c hc => h c (mem_rep hc)
theorem Lets.set {a : List Int} (h : Lets a) {n : Nat} {x : Int} (hx : 97 ≤ x ∧ x ≤ 99) : Lets (a.set n x) := fun c hc => by
  rcases List.mem_or_eq_of_mem_set hc with q | q
  · exact h c q
  · rw [q]; exact hx
end Mine
end
section
set_option maxRecDepth 100000
set_option linter.unusedVariables false
namespace Mine
open PySem PySem.W PySem.Calls PyProof.Rows PySem.Spec MeetsSeq
section
variable {C : Cx} {F : Fm} {vars : Vars} {bs : BS}
theorem TsL.mono {es : List Expr} {Q Q' : BS → Bool → Prop} (h : TsL C F vars bs es Q) (hq : ∀ b r, Q b r → Q' b r) : TsL C F vars bs es Q' :=
  ⟨fun A env Ψ φ ρ s hA X => wpAny_mono (h.run A env Ψ φ ρ s hA X) (fun _ _ ⟨φ', b, h1, h2, h4⟩ => ⟨φ', b, h1, h2, hq _ _ h4⟩) fun _ _ x => x⟩
/-- a comprehension that changes nothing: what it makes of each thing -/
structure CompP (C : Cx) (F : Fm) (vars : Vars) (bs : BS) (csc : Scope) (target elt : Expr) (ifs : List Expr) (xs : List D) (g : D → Option D) : Prop where
  turn : ∀ x ∈ xs, ∃ nv, bindT target x = some nv ∧ TsL C (compFm csc F) (nv ++ capt csc vars) bs ifs fun b' t =>
    (t = true → Ev C (compFm csc F) (nv ++ capt csc vars) b' elt fun b2 r => ValK (fun d => b2 = bs ∧ g x = some d) r.norm) ∧ (t = false → b' = bs ∧ g x = none)
  tgt : tgtOk (compFm csc F) target = true
  cok : cscOk csc = true
  free : freeOk csc F vars = true
  apart : (tgtNames target).all (fun x => !(csc.names.lookup x == some .free)) = true
  len : xs.length ≤ 16777215
theorem CompP.ok {csc : Scope} {target elt : Expr} {ifs : List Expr} {xs : List D} {g : D → Option D} (h : CompP C F vars bs csc target elt ifs xs g) :
    CompOk C F vars csc target elt ifs (fun rest acc b => ∃ pre, xs = pre ++ rest ∧ acc = pre.filterMap g ∧ b = bs) := by
  refine ⟨fun x rest acc b ⟨pre, e1, e2, e3⟩ => ?_, h.tgt, h.cok, h.free, h.apart⟩
  subst e3
  obtain ⟨nv, k1, k2⟩ := h.turn x (by rw [e1]; simp)
  refine ⟨nv, k1, k2.mono fun b' t ⟨k3, k4⟩ => ⟨fun ht => (k3 ht).mono fun b2 r hr => ?_, fun ht => ?_⟩⟩
  · revert hr
    generalize r.norm = r
    intro hr
    cases r with
    | val d =>
      obtain ⟨rfl, hg⟩ := hr
      refine ⟨?_, pre ++ [x], by rw [e1]; simp, by rw [List.filterMap_append, e2]; simp [hg], rfl⟩
      have := List.length_filterMap_le g pre
      have l := h.len
      rw [e1, List.length_append, List.length_cons] at l
      rw [e2]; omega
    | _ => exact hr.elim
  · obtain ⟨rfl, hg⟩ := k4 ht
    exact ⟨pre ++ [x], by rw [e1]; simp, by rw [List.filterMap_append, e2]; simp [hg], rfl⟩
theorem Ev_compP {target elt iter : Expr} {ifs : List Expr} {csc : Scope} {pos : Pos} {Q : BS → R → Prop} (xs : List D) (g : D → Option D)
    (hi : Ev C F vars bs iter fun b r => ItOk C r.norm xs ∧ b = bs ∧ Q bs (.own (xs.filterMap g))) (K : CompP C F vars bs csc target elt ifs xs g) (hs : notSetE iter = true) : Ev C F vars bs (.ListComp elt [⟨target, iter, ifs, 0⟩] csc pos) Q :=
  Ev_comp _ (hi.mono fun b r ⟨h1, h2, h3⟩ => ⟨xs, h1, ⟨[], rfl, rfl, h2⟩, fun acc b' ⟨pre, e1, e2, e3⟩ => by
    subst e3; rw [List.append_nil] at e1; subst e1 e2; exact h3⟩) K.ok hs
theorem Ex1_assign_compP {y : Str} {py : Pos} {target elt iter : Expr} {ifs : List Expr} {csc : Scope} {pos spos : Pos} {Q : Vars → BS → Fl → Prop} (xs : List D) (g : D → Option D)
    (hi : Ev C F vars bs iter fun b r => ItOk C r.norm xs ∧ b = bs ∧ Q ((y, .mu (xs.filterMap g)) :: vars) bs .next) (K : CompP C F vars bs csc target elt ifs xs g) (hs : notSetE iter = true) (hx : isLoc F y = true) :
    Ex1 C F vars bs (.Assign [.Name y py] (.ListComp elt [⟨target, iter, ifs, 0⟩] csc pos) spos) Q :=
  Ex1_assign_comp _ (hi.mono fun b r ⟨h1, h2, h3⟩ => ⟨xs, h1, ⟨[], rfl, rfl, h2⟩, fun acc b' ⟨pre, e1, e2, e3⟩ => by
    subst e3; rw [List.append_nil] at e1; subst e1 e2; exact h3⟩) K.ok hs hx
end
theorem mem_upto {a : Int} {n : Nat} {x : Int} : x ∈ upto a n ↔ a ≤ x ∧ x < a + n := by
  unfold upto
  rw [List.mem_map]
  constructor
  · rintro ⟨i, hi, rfl⟩
    have := List.mem_range.mp hi; omega
  · rintro ⟨h1, h2⟩
    exact ⟨(x - a).toNat, List.mem_range.mpr (by omega), by omega⟩
noncomputable def gI (f : Int → Option D) : D → Option D
  | .int i => f i
  | _ => none
theorem filterMap_gI (f : Int → Option D) (l : List Int) : (l.map D.int).filterMap (gI f) = l.filterMap f := by
  rw [List.filterMap_map]; rfl
section
variable {C : Cx} {F : Fm} {vars : Vars} {bs : BS}
theorem Ex1_assign_compR {y : Str} {py : Pos} {x : Str} {px : Pos} {elt iter : Expr} {ifs : List Expr} {csc : Scope} {pos spos : Pos} {Q : Vars → BS → Fl → Prop} (a : Int) (n : Nat) (f : Int → Option D) (ha : -(2 ^ 20) ≤ a ∧ a ≤ 2 ^ 20) (hn : n ≤ 2 ^ 20)
    (hi : Ev C F vars bs iter fun b r => (∃ e, r.norm = .val (.range a e 1) ∧ -(2 ^ 30) ≤ e ∧ e ≤ 2 ^ 30 ∧ (e - a).toNat = n) ∧ b = bs ∧ Q ((y, .mu ((upto a n).filterMap f)) :: vars) bs .next)
    (turn : ∀ i, a ≤ i → i < a + n → TsL C (compFm csc F) ((x, .val (.int i)) :: capt csc vars) bs ifs fun b' t =>
      (t = true → Ev C (compFm csc F) ((x, .val (.int i)) :: capt csc vars) b' elt fun b2 r => ValK (fun d => b2 = bs ∧ f i = some d) r.norm) ∧ (t = false → b' = bs ∧ f i = none))
    (tgt : tgtOk (compFm csc F) (.Name x px) = true) (cok : cscOk csc = true) (free : freeOk csc F vars = true) (apart : (tgtNames (.Name x px)).all (fun x => !(csc.names.lookup x == some .free)) = true) (hs : notSetE iter = true) (hx : isLoc F y = true) :
    Ex1 C F vars bs (.Assign [.Name y py] (.ListComp elt [⟨.Name x px, iter, ifs, 0⟩] csc pos) spos) Q := by
  refine Ex1_assign_compP ((upto a n).map D.int) (gI f) (hi.mono fun b r ⟨⟨e, h1, h2, h3, h4⟩, h5, h6⟩ => ⟨?_, h5, by rw [filterMap_gI]; exact h6⟩) ⟨fun d hd => ?_, tgt, cok, free, apart, by rw [List.length_map, upto_length]; omega⟩ hs hx
  · rw [h1, ← h4]; exact ItOk_up (by omega) (by omega)
  · obtain ⟨i, hi, rfl⟩ := List.mem_map.mp hd
    obtain ⟨h1, h2⟩ := mem_upto.mp hi
    exact ⟨_, rfl, turn i h1 h2⟩
end
end Mine
end
section
set_option maxRecDepth 100000
set_option linter.unusedVariables false
namespace Mine
open PySem PySem.W PySem.Calls PyProof.Rows PySem.Spec MeetsSeq
section
variable {prog : Program} {w : World} {A : Around} {E : Value → Shared → Prop} {s : Shared}
end
section
variable {C : Cx} {F : Fm} {vars : Vars} {bs : BS} {Q : Vars → BS → Fl → Prop}
end
end Mine
end
section
set_option maxRecDepth 100000
set_option linter.unusedVariables false
namespace Mine
open PySem PySem.W PySem.Calls PyProof.Rows PySem.Spec MeetsSeq
end Mine
end
section
set_option maxRecDepth 100000
set_option linter.unusedVariables false
namespace Mine
open PySem PySem.W PySem.Calls PyProof.Rows PySem.Spec MeetsSeq
section
variable {C : Cx} {F : Fm} {vars : Vars} {bs : BS}
end
end Mine
end
section
set_option maxRecDepth 100000
set_option linter.unusedVariables false
namespace Mine
open PySem PySem.W PySem.Calls PyProof.Rows PySem.Spec MeetsSeq
section
variable {C : Cx} {F : Fm} {vars : Vars} {bs : BS}
end
end Mine
end
section
set_option maxRecDepth 100000
set_option linter.unusedVariables false
namespace Mine
open PySem PySem.W PySem.Calls PyProof.Rows PySem.Spec MeetsSeq
/-- a law's call, at the end of the head -/
theorem kp_of {K K' : Frag} {h : Heap} (x : K.In h) (e : K'.map (fun p => List.lookup p.1 K) = K'.map fun p => some p.2) : K'.In h := by
  intro a o hl
  have m : (a, o) ∈ K' := by
    clear x e
    induction K' with
    | nil => cases hl
    | cons p l ih =>
      obtain ⟨b, q⟩ := p
      by_cases w : a = b
      · subst w
        rw [List.lookup_cons_self] at hl
        cases hl
        exact List.mem_cons_self
      · rw [List.lookup_cons, show (a == b) = false by simpa using w] at hl
        exact List.mem_cons_of_mem _ (ih hl)
  exact x a o (List.map_inj_left.mp e (a, o) m)
theorem join_law {c : ClaimW} {cl : Str → Option Addr} {mean : ExcName → Option Value} {args : List WData} {prog : Program} {w : World} {s₁ : Shared} {mg mb : Str → Option Value} {fa a : Addr} {vs : List Value} {ns : List Int} {n : Nat}
    (hn : n ≤ 20) (hr : ∀ cls, c.raises args cls = false) (hp : c.post args (.bool true) args = true) (hg : s₁.gens = #[]) (g : s₁.heap.Ns mainGlobals mg)
    (hl : s₁.heap.get? a = some (listOf vs.toArray 0)) (hI : IntsAre vs ns)
    (hf : (∃ o, s₁.heap.get? mainGlobals = some o) → Fn ⟨prog, w, s₁, s₁.heap, mg, mb, mainGlobals⟩ n (.ref fa) [.list (ns.map D.int)] none (fun _ r => r = .val (.bool true))) :
    codeAny (model prog w) callerA (.call (.ref fa) ⟨[.ref a], []⟩) (GoodWG c cl mean args s₁) s₁ := by
  have hβ : ∃ o, s₁.heap.get? mainGlobals = some o := by obtain ⟨o, _, _, h, _⟩ := g; exact ⟨o, h⟩
  have G : GSt ⟨prog, w, s₁, s₁.heap, mg, mb, mainGlobals⟩ (fun _ => none) (fun b => s₁.heap.get? b) none s₁ :=
    ⟨fun _ _ e => e, fun _ _ e => e, fun _ _ e => (nomatch e), fun _ _ _ => rfl, hβ, fun _ e => (nomatch e), s₁.heap, s₁.toks, rfl⟩
  have hA : AOk n callerA := by
    refine ⟨rfl, ?_, ?_⟩
    · have : callerA.depth + 3 * 20 + 5 < recursionLimit := by decide +kernel
      lia
    · have : callerA.units + 40 * 20 + 150 < cLine := by decide +kernel
      lia
  refine codeAny_mono ((hf hβ).run callerA _ _ s₁ [.ref a] hA G (.cons (.list hl (ints_rep hI)) .nil)) (fun r s' h => ?_)
  cases r with
  | error e => exact h.elim
  | ok f =>
    cases f with
    | ret v =>
      obtain ⟨φ', bs', r, le, G', hv, rfl⟩ := h
      cases hv with
      | bool b =>
        refine ⟨.inl ⟨_, _, _, rfl, hr, .bool _, hp, fun _ => ⟨List.nodup_nil, fun _ h => (nomatch h)⟩⟩, .of_keep fun b o e => G'.fro b o (le _ _ e), ?_, ?_⟩
        · obtain ⟨h, tk, rfl⟩ := G'.same; rfl
        · obtain ⟨h, tk, rfl⟩ := G'.same; exact .of_eq hg
    | _ => exact h.elim
end Mine
end
section
set_option maxRecDepth 100000
set_option linter.unusedVariables false
namespace Mine
open PySem PySem.W PySem.Calls PyProof.Rows PySem.Spec MeetsSeq
section
variable {K : Nat → Int} {n : Nat} {s : Shared} {cmp : Nat → Nat → (Bool → Shared → Prop) → Shared → Prop}
/-- the places of a row, in some order -/
abbrev Pm (n : Nat) (p : Array Nat) : Prop := p.Perm (List.toArray (List.range n))
noncomputable def Inc (K : Nat → Int) (p : Array Nat) (m : Nat) : Prop := ∀ i j, i < j → j < m → K (p.getD i 0) < K (p.getD j 0)
noncomputable def Dec (K : Nat → Int) (p : Array Nat) (m : Nat) : Prop := ∀ i j, i < j → j < m → K (p.getD j 0) < K (p.getD i 0)
theorem Pm.size {p : Array Nat} (h : Pm n p) : p.size = n := by have := h.size_eq; simpa using this
theorem getD_congr {p q : Array Nat} {i j : Nat} (h : p[i]? = q[j]?) : p.getD i 0 = q.getD j 0 := by
  rw [Array.getD_eq_getD_getElem?, Array.getD_eq_getD_getElem?, h]
theorem Pm.lt {p : Array Nat} (h : Pm n p) {i : Nat} (hi : i < n) : p.getD i 0 < n := by
  have hs := h.size
  have e : p.getD i 0 = p[i]'(by lia) := by
    rw [Array.getD_eq_getD_getElem?, Array.getElem?_eq_getElem (by lia)]; rfl
  have := (Array.perm_iff_toList_perm.mp h).mem_iff.mp (show p[i]'(by lia) ∈ p.toList by simp)
  rw [e]
  simpa using this
theorem Pm.inj {p : Array Nat} (h : Pm n p) {i j : Nat} (hi : i < n) (hj : j < n) (e : p.getD i 0 = p.getD j 0) : i = j := by
  have hs := h.size
  have hn : p.toList.Nodup := (Array.perm_iff_toList_perm.mp h).nodup_iff.mpr List.nodup_range
  rw [Array.getD_eq_getD_getElem?, Array.getD_eq_getD_getElem?, Array.getElem?_eq_getElem (by lia), Array.getElem?_eq_getElem (by lia)] at e
  exact (List.getElem_inj hn (h₀ := by simp; lia) (h₁ := by simp; lia)).mp e
/-- a comparison that tells the order of K -/
structure Told (K : Nat → Int) (n : Nat) (s : Shared) (cmp : Nat → Nat → (Bool → Shared → Prop) → Shared → Prop) : Prop where
  ask : ∀ i j (C : Bool → Shared → Prop), i < n → j < n → C (decide (K i < K j)) s → cmp i j C s
  inj : ∀ i j, i < n → j < n → K i = K j → i = j
theorem Told.at (T : Told K n s cmp) {p : Array Nat} (hp : Pm n p) {i j : Nat} (hi : i < n) (hj : j < n) {C : Bool → Shared → Prop} (h1 : K (p.getD i 0) < K (p.getD j 0) → C true s) (h2 : i ≠ j → K (p.getD j 0) < K (p.getD i 0) → C false s) (hij : i ≠ j) :
    cmp (p.getD i 0) (p.getD j 0) C s := by
  refine T.ask _ _ _ (hp.lt hi) (hp.lt hj) ?_
  by_cases h : K (p.getD i 0) < K (p.getD j 0)
  · rw [decide_eq_true h]; exact h1 h
  · rw [decide_eq_false h]
    have : K (p.getD i 0) ≠ K (p.getD j 0) := fun e => hij (hp.inj hi hj (T.inj _ _ (hp.lt hi) (hp.lt hj) e))
    exact h2 hij (by (clear hi hj; omega))
theorem Inc.step {p : Array Nat} {m : Nat} (h : Inc K p m) (h1 : 1 ≤ m) (hl : K (p.getD (m - 1) 0) < K (p.getD m 0)) : Inc K p (m + 1) := fun i j hij hj => by
  by_cases e : j = m
  · subst e
    by_cases e2 : i = j - 1
    · subst e2; exact hl
    · exact Int.lt_trans (h i (j - 1) (by lia) (by (clear hij hl; omega))) hl
  · exact h i j hij (by lia)
theorem Dec.step {p : Array Nat} {m : Nat} (h : Dec K p m) (h1 : 1 ≤ m) (hl : K (p.getD m 0) < K (p.getD (m - 1) 0)) : Dec K p (m + 1) := fun i j hij hj => by
  by_cases e : j = m
  · subst e
    by_cases e2 : i = j - 1
    · subst e2; exact hl
    · exact Int.lt_trans hl (h i (j - 1) (by lia) (by (clear hij hl; omega)))
  · exact h i j hij (by lia)
theorem asc_ok (T : Told K n s cmp) {p : Array Nat} (hp : Pm n p) {G : Nat → Shared → Prop} : ∀ (f m : Nat), 1 ≤ m → m + f = n → Inc K p m → (∀ r, m ≤ r → r ≤ n → Inc K p r → (r = n ∨ K (p.getD r 0) < K (p.getD (r - 1) 0)) → G r s) → (kas_asc p f m).kasWp cmp G s
  | 0, m, h1, hf, hI, h => h m (Nat.le_refl _) (by (clear h1; lia)) hI (.inl (by omega))
  | f + 1, m, h1, hf, hI, h => by
    show cmp (p.getD m 0) (p.getD (m - 1) 0) (fun c s' => (if c = true then KasT.ret m else kas_asc p f (m + 1)).kasWp cmp G s') s
    refine T.at hp (by lia) (by omega) (fun hl => ?_) (fun _ hl => ?_) (by (clear hf; omega))
    · exact h m (Nat.le_refl _) (by lia) hI (.inr hl)
    · exact asc_ok T hp f (m + 1) (by lia) (by lia) (hI.step h1 hl) fun r r1 => h r (by lia)
theorem desc_ok (T : Told K n s cmp) {p : Array Nat} (hp : Pm n p) {G : Array Nat × Nat × Nat → Shared → Prop} : ∀ (f m : Nat), 1 ≤ m → m + f = n → Dec K p m → (∀ r, m ≤ r → r ≤ n → Dec K p r → G (p, r, 0) s) → (kas_desc f p m 0).kasWp cmp G s
  | 0, m, h1, hf, hI, h => h m (Nat.le_refl _) (by (clear h1; lia)) hI
  | f + 1, m, h1, hf, hI, h => by
    show cmp (p.getD m 0) (p.getD (m - 1) 0) (fun c s' => (if c = true then (if 0 > 0 then kas_desc f (kas_rev p (m - (0 + 1)) m) (m + 1) 0 else kas_desc f p (m + 1) 0) else KasT.ask (p.getD (m - 1) 0) (p.getD m 0) fun d => if d = true then KasT.ret (p, m, 0) else kas_desc f p (m + 1) (0 + 1)).kasWp cmp G s') s
    refine T.at hp (by lia) (by omega) (fun hl => ?_) (fun _ hl => ?_) (by (clear hf; omega))
    · exact desc_ok T hp f (m + 1) (by lia) (by lia) (hI.step h1 hl) fun r r1 => h r (by lia)
    · show cmp (p.getD (m - 1) 0) (p.getD m 0) (fun d s' => (if d = true then KasT.ret (p, m, 0) else kas_desc f p (m + 1) (0 + 1)).kasWp cmp G s') s
      refine T.at hp (by (clear hl; omega)) (by lia) (fun _ => ?_) (fun _ hl2 => absurd hl2 (by (clear h1 hf hl2; omega))) (by lia)
      exact h m (Nat.le_refl _) (by lia) hI
theorem rev_pm {p : Array Nat} (hp : Pm n p) (i j : Nat) : Pm n (kas_rev p i j) := (mirror_perm _ _ _ _).trans hp
theorem tail_ok (T : Told K n s cmp) {p : Array Nat} (hp : Pm n p) {G : Nat × Array Nat → Shared → Prop} {m : Nat} (h1 : 1 ≤ m) (hm : m ≤ n) (hD : Dec K p m) (h : ∀ r p', Pm n p' → 1 ≤ r → r ≤ n → Inc K p' r → G (r, p') s) : (kas_tail3 m n p).kasWp cmp G s := by
  unfold kas_tail3
  rw [KasT.kasWp_bind]
  have hr := rev_pm hp 0 m
  refine asc_ok T hr (n - m) m h1 (by lia) (fun i j hij hj => ?_) fun r r1 r2 r3 _ => h r _ hr (by lia) r2 r3
  have key : ∀ k, k < m → (kas_rev p 0 m).getD k 0 = p.getD (m - 1 - k) 0 := fun k hk => by
    refine getD_congr ?_
    have := getElem?_mirror_all (xs := p) (i := 0) (j := m) (by rw [hp.size]; exact hm) k
    rw [if_pos (by lia), Nat.zero_add] at this
    exact this
  rw [key i (by lia), key j hj]
  exact hD _ _ (by (clear h1 hm; omega)) (by (clear hm hij hj; omega))
theorem part_ok (T : Told K n s cmp) {p : Array Nat} (hp : Pm n p) {G : Nat × Array Nat → Shared → Prop} {m : Nat} (hm : m + 1 ≤ n) (hD : Dec K p (m + 1)) (h : ∀ r p', Pm n p' → 1 ≤ r → r ≤ n → Inc K p' r → G (r, p') s) : (kas_descPart m n p).kasWp cmp G s := by
  unfold kas_descPart
  rw [KasT.kasWp_bind]
  refine desc_ok T hp (n - (m + 1)) (m + 1) (by lia) (by omega) hD fun r r1 r2 r3 => ?_
  show (if 0 > 0 then kas_tail3 r n (kas_rev p (r - (0 + 1)) r) else kas_tail3 r n p).kasWp cmp G s
  rw [if_neg (by decide)]
  exact tail_ok T hp (by (clear hD; lia)) r2 r3 h
theorem one_inc {p : Array Nat} : Inc K p 1 := fun i j hij hj => by omega
theorem count_ok (T : Told K n s cmp) {p : Array Nat} (hp : Pm n p) {G : Nat × Array Nat → Shared → Prop} (hn : 1 ≤ n) (h : ∀ r p', Pm n p' → 1 ≤ r → r ≤ n → Inc K p' r → G (r, p') s) : (kas_count n p).kasWp cmp G s := by
  unfold kas_count
  rw [KasT.kasWp_bind]
  refine asc_ok T hp (n - 1) 1 (Nat.le_refl _) (by lia) one_inc fun m m1 m2 m3 m4 => ?_
  by_cases e : (m == n) = true
  · rw [if_pos e]; exact h m p hp m1 m2 m3
  · rw [if_neg e]
    have hne : m ≠ n := fun q => e (by rw [q]; exact beq_self_eq_true _)
    have hl := m4.resolve_left hne
    by_cases e2 : m > 1
    · rw [if_pos e2]
      show cmp (p.getD 0 0) (p.getD (m - 1) 0) (fun c s' => (if c = true then KasT.ret (m, p) else kas_descPart m n (kas_rev p 0 m)).kasWp cmp G s') s
      have := m3 0 (m - 1) (by (clear hn hl; omega)) (by (clear hl e2; omega))
      refine T.at hp (by assumption) (by (clear m1 hl e2 this; omega)) (fun _ => ?_) (fun _ hl2 => absurd hl2 (by (clear hl hl2; omega))) (by (clear hn hl this; omega))
      exact h m p hp m1 m2 m3
    · rw [if_neg e2]
      obtain rfl : m = 1 := by lia
      refine part_ok T hp (by (clear e; lia)) (fun i j hij hj => ?_) h
      obtain rfl : i = 0 := by lia
      obtain rfl : j = 1 := by lia
      exact hl
theorem place_ok (T : Told K n s cmp) {p : Array Nat} (hp : Pm n p) {G : Nat → Shared → Prop} {k : Nat} (hk : k < n) (hI : Inc K p k)
    (h : ∀ l, l ≤ k → (∀ i, i < l → K (p.getD i 0) < K (p.getD k 0)) → (∀ i, l ≤ i → i < k → K (p.getD k 0) < K (p.getD i 0)) → G l s) : ∀ (f l r : Nat), l ≤ r → r ≤ k → r ≤ l + f → (∀ i, i < l → K (p.getD i 0) < K (p.getD k 0)) → (∀ i, r ≤ i → i < k → K (p.getD k 0) < K (p.getD i 0)) → (kas_place p k f l r).kasWp cmp G s
  | 0, l, r, h1, h2, h3, h4, h5 => h l (by (clear h3; lia)) h4 fun i i1 => h5 i (by (clear h1; lia))
  | f + 1, l, r, h1, h2, h3, h4, h5 => by
    unfold kas_place
    by_cases e : l ≥ r
    · rw [if_pos e]; exact h l (by (clear e; lia)) h4 fun i i1 => h5 i (by (clear h1; lia))
    · rw [if_neg e]
      show cmp (p.getD k 0) (p.getD ((l + r) / 2) 0) (fun c s' => (if c = true then kas_place p k f l ((l + r) / 2) else kas_place p k f ((l + r) / 2 + 1) r).kasWp cmp G s') s
      have m1 : l ≤ (l + r) / 2 ∧ (l + r) / 2 < r := by (clear h1; lia)
      generalize (l + r) / 2 = m at m1
      refine T.at hp hk (by lia) (fun hl => ?_) (fun _ hl => ?_) (by (clear hk; lia))
      · refine place_ok T hp hk hI h f l m m1.1 (by lia) (by lia) h4 fun i i1 i2 => ?_
        by_cases e : i = m
        · subst e; exact hl
        · exact Int.lt_trans hl (hI m i (by lia) i2)
      · refine place_ok T hp hk hI h f (m + 1) r (by lia) h2 (by (clear h1; lia)) (fun i i1 => ?_) h5
        by_cases e : i = m
        · subst e; exact hl
        · exact Int.lt_trans (hI i m (by lia) (by lia)) hl
theorem bin_ok (T : Told K n s cmp) {G : Array Nat → Shared → Prop} (h : ∀ p, Pm n p → Inc K p n → G p s) : ∀ (f k : Nat) (p : Array Nat), Pm n p → k + f = n → Inc K p k → (kas_bin f p k).kasWp cmp G s
  | 0, k, p, hp, hf, hI => h p hp (by rw [← hf]; exact hI)
  | f + 1, k, p, hp, hf, hI => by
    show ((kas_place p k k 0 k).bind fun l => kas_bin f (bubble p k (k - l)) (k + 1)).kasWp cmp G s
    rw [KasT.kasWp_bind]
    refine place_ok T hp (by lia) hI (fun l l1 l2 l3 => ?_) k 0 k (Nat.zero_le _) (Nat.le_refl _) (by lia) (fun i hi => by lia) fun i i1 i2 => by (clear hf; omega)
    refine bin_ok T h f (k + 1) _ ((bubble_perm _ _ _).trans hp) (by lia) fun i j hij hj => ?_
    have key : ∀ x, (bubble p k (k - l)).getD x 0 = if x = l then p.getD k 0 else if l < x ∧ x ≤ k then p.getD (x - 1) 0 else p.getD x 0 := fun x => by
      have := getElem?_bubble (xs := p) (src := k) (by rw [hp.size]; lia) (k - l) (by (clear l1 hj; lia)) x
      rw [show k - (k - l) = l by (clear hf; lia)] at this
      split
      · rename_i e; rw [if_pos e] at this; exact getD_congr this
      · rename_i e
        rw [if_neg e] at this
        split
        · rename_i e2; rw [if_pos e2] at this; exact getD_congr this
        · rename_i e2; rw [if_neg e2] at this; exact getD_congr this
    rw [key i, key j]
    by_cases a1 : i = l
    · rw [if_pos a1, if_neg (by lia), if_pos (by (clear l1; lia))]
      exact l3 _ (by lia) (by (clear hf l1 a1; omega))
    · rw [if_neg a1]
      by_cases a2 : j = l
      · rw [if_pos a2, if_neg (by (clear l1; lia))]
        exact l2 _ (by (clear l1 a1; lia))
      · rw [if_neg a2]
        by_cases a3 : l < i ∧ i ≤ k
        · rw [if_pos a3, if_pos (by (clear a2; lia))]
          exact hI _ _ (by (clear hf l1; omega)) (by (clear hf l1; omega))
        · rw [if_neg a3]
          by_cases a4 : l < j ∧ j ≤ k
          · rw [if_pos a4]
            exact hI _ _ (by lia) (by (clear hf l1 hij hj; omega))
          · rw [if_neg a4]
            exact hI _ _ hij (by (clear a1; lia))
/-- the order that sorting finds, by what comparing tells -/
theorem sort_tree_ok (T : Told K n s cmp) (hn : 1 ≤ n) {G : Array Nat → Shared → Prop} (h : ∀ p, Pm n p → Inc K p n → G p s) : (kas_sort n).kasWp cmp G s := by
  unfold kas_sort
  rw [KasT.kasWp_bind]
  refine count_ok T (Array.Perm.refl _) hn fun r p hp r1 r2 hI => ?_
  dsimp only
  rw [show max r 1 = r by lia]
  by_cases e : r < n
  · rw [if_pos e]
    exact bin_ok T h (n - r) r p hp (by (clear hn; lia)) hI
  · rw [if_neg e]
    exact h p hp (by rw [show n = r by lia]; exact hI)
end
end Mine
end
section
set_option maxRecDepth 100000
set_option linter.unusedVariables false
namespace Mine
open PySem PySem.W PySem.Calls PyProof.Rows PySem.Spec MeetsSeq
abbrev Run := Nat × Nat × Nat
noncomputable def runD (x : Run) : D := .tuple [.int x.1, .int x.2.1, .int x.2.2]
/-- three small numbers as one -/
noncomputable def numT (x : Run) : Int := (x.1 : Int) * 10000 + (x.2.1 : Int) * 100 + (x.2.2 : Int)
noncomputable def okT (x : Run) : Prop := x.2.1 < 100 ∧ x.2.2 < 100
theorem numT_inj {x y : Run} (hx : okT x) (hy : okT y) (h : numT x = numT y) : x = y := by
  obtain ⟨a, b, c⟩ := x
  obtain ⟨a', b', c'⟩ := y
  unfold okT at hx hy
  unfold numT at h
  dsimp only at hx hy h
  have e1 : a = a' := by lia
  have e2 : b = b' := by lia
  have e3 : c = c' := by (clear hy; lia)
  rw [e1, e2, e3]
/-- a value that is such a tuple -/
noncomputable def IsT (h : Heap) (v : Value) (x : Run) : Prop := ∃ a n t u w, v = .ref a ∧ h.get? a = some (tupOf #[.int x.1 t, .int x.2.1 u, .int x.2.2 w] n)
section
variable {prog : Program} {w : World} {A : Around} {E : Value → Shared → Prop} {s : Shared} {vs : List Value} {L : List Run}
theorem lt_tup {v v' : Value} {x y : Run} {C : Bool → Shared → Prop} (hv : IsT s.heap v x) (hv' : IsT s.heap v' y) (hx : okT x) (hy : okT y) (h : C (decide (numT x < numT y)) s) :
    wpAny (model prog w) A (keyLt' (tuples' true) v v') C E s := by
  obtain ⟨a, n, t, u, z, rfl, h1⟩ := hv
  obtain ⟨a', n', t', u', z', rfl, h1'⟩ := hv'
  obtain ⟨x1, x2, x3⟩ := x
  obtain ⟨y1, y2, y3⟩ := y
  unfold okT at hx hy
  unfold numT at h
  dsimp only at hx hy h h1 h1'
  refine kat_lt h1 rfl h1' rfl ?_
  refine kat_cons (wpAny_eqBool_int (kat_go (fun e => ?_) fun e => ?_))
  · have e1 : (x1 : Int) = y1 := by simpa using e
    refine kat_yes (kat_cons (wpAny_eqBool_int (kat_go (fun e => ?_) fun e => ?_)))
    · have e2 : (x2 : Int) = y2 := by simpa using e
      refine kat_yes (kat_cons (wpAny_eqBool_int (kat_go (fun e => ?_) fun e => ?_)))
      · have e3 : (x3 : Int) = y3 := by simpa using e
        refine kat_yes (kat_nil ?_)
        rw [decide_eq_false (by rw [e1, e2, e3]; exact Int.lt_irrefl _)] at h
        exact h
      · refine kat_no (kat_one _ _ (lt_int ?_))
        show C (decide ((x3 : Int) < y3)) s
        rw [show decide ((x3 : Int) < y3) = decide ((x1 : Int) * 10000 + (x2 : Int) * 100 + (x3 : Int) < (y1 : Int) * 10000 + (y2 : Int) * 100 + (y3 : Int)) from decide_eq_decide.mpr (by (clear hx e; lia))]
        exact h
    · have e2 : (x2 : Int) ≠ y2 := by simpa using e
      refine kat_no (kat_one _ _ (lt_int ?_))
      show C (decide ((x2 : Int) < y2)) s
      rw [show decide ((x2 : Int) < y2) = decide ((x1 : Int) * 10000 + (x2 : Int) * 100 + (x3 : Int) < (y1 : Int) * 10000 + (y2 : Int) * 100 + (y3 : Int)) from decide_eq_decide.mpr (by (clear e; lia))]
      exact h
  · have e1 : (x1 : Int) ≠ y1 := by simpa using e
    refine kat_no (oneLt_int ?_)
    rw [show decide ((x1 : Int) < y1) = decide ((x1 : Int) * 10000 + (x2 : Int) * 100 + (x3 : Int) < (y1 : Int) * 10000 + (y2 : Int) * 100 + (y3 : Int)) from decide_eq_decide.mpr (by (clear h1 e; lia))]
    exact h
/-- a row of such tuples -/
noncomputable def AreT (h : Heap) : List Value → List Run → Prop
  | [], [] => True
  | v :: vs, x :: L => IsT h v x ∧ AreT h vs L
  | _, _ => False
theorem AreT.keep {h h' : Heap} : ∀ {vs : List Value} {L : List Run}, AreT h vs L → (∀ b o, h.get? b = some o → o.cls = .type "tuple" → h'.get? b = some o) → AreT h' vs L
  | [], [], _, _ => trivial
  | [], _ :: _, x, _ => x.elim
  | _ :: _, [], x, _ => x.elim
  | v :: vs, x :: L, ⟨⟨a, n, t, u, w, e, g⟩, r⟩, k => ⟨⟨a, n, t, u, w, e, k _ _ g rfl⟩, AreT.keep r k⟩
theorem AreT.len {h : Heap} : ∀ {vs : List Value} {L : List Run}, AreT h vs L → vs.length = L.length
  | [], [], _ => rfl
  | [], _ :: _, x => x.elim
  | _ :: _, [], x => x.elim
  | v :: vs, x :: L, ⟨_, r⟩ => by rw [List.length_cons, List.length_cons, r.len]
theorem AreT.get {h : Heap} : ∀ {vs : List Value} {L : List Run}, AreT h vs L → ∀ i, i < L.length → IsT h (vs.getD i Value.none) (L.getD i (0, 0, 0))
  | [], [], _, i, hi => by simp at hi
  | [], _ :: _, x, _, _ => x.elim
  | _ :: _, [], x, _, _ => x.elim
  | v :: vs, x :: L, ⟨q, r⟩, 0, _ => q
  | v :: vs, x :: L, ⟨q, r⟩, i + 1, hi => by
    have := r.get i (by simpa using hi)
    simpa using this
theorem AreT.tups {h : Heap} : ∀ {vs : List Value} {L : List Run}, AreT h vs L → ∃ fs, KatTups h vs fs ∧ fs.length = L.length ∧ ∀ v ∈ fs, ∃ n t, v = .int n t
  | [], [], _ => ⟨[], trivial, rfl, fun _ h => nomatch h⟩
  | [], _ :: _, x => x.elim
  | _ :: _, [], x => x.elim
  | v :: vs, x :: L, ⟨⟨a, n, t, u, w, e, g⟩, r⟩ => by
    obtain ⟨fs, h1, h2, h3⟩ := r.tups
    subst e
    refine ⟨_ :: fs, KatTups.cons g rfl rfl rfl h1, by rw [List.length_cons, List.length_cons, h2], fun v hv => ?_⟩
    rcases List.mem_cons.mp hv with rfl | hv
    · exact ⟨_, _, rfl⟩
    · exact h3 v hv
theorem told_tups (hL : AreT s.heap vs L) (hok : ∀ x ∈ L, okT x) (hn : L.Nodup) : Told (fun i => numT (L.getD i (0, 0, 0))) L.length s (kas_ask prog w A (tuples' true) vs) where
  ask := fun i j C hi hj h => by
    unfold kas_ask
    have g : ∀ k, k < L.length → okT (L.getD k (0, 0, 0)) := fun k hk => by
      rw [List.getD_eq_getElem?_getD, List.getElem?_eq_getElem hk]; exact hok _ (List.getElem_mem _)
    exact lt_tup (hL.get i hi) (hL.get j hj) (g i hi) (g j hj) h
  inj := fun i j hi hj e => by
    have g : ∀ k (hk : k < L.length), L.getD k (0, 0, 0) = L[k] := fun k hk => by
      rw [List.getD_eq_getElem?_getD, List.getElem?_eq_getElem hk]; rfl
    rw [g i hi, g j hj] at e
    exact (List.getElem_inj hn).mp (numT_inj (hok _ (List.getElem_mem _)) (hok _ (List.getElem_mem _)) e)
end
/-- what an order of places makes of a row -/
noncomputable def byOrder {α : Type} (z : α) (l : List α) (p : Array Nat) : List α := p.toList.map fun i => l.getD i z
theorem byOrder_perm {L : List Run} {p : Array Nat} (hp : Pm L.length p) : (byOrder (0, 0, 0) L p).Perm L := by
  have h1 := (Array.perm_iff_toList_perm.mp hp).map fun i => L.getD i (0, 0, 0)
  have h2 : (List.range L.length).map (fun i => L.getD i (0, 0, 0)) = L := by
    apply List.ext_getElem?
    intro i
    by_cases hi : i < L.length
    · rw [List.getElem?_map, List.getElem?_range hi, List.getElem?_eq_getElem hi]
      show some (L.getD i (0, 0, 0)) = _
      rw [List.getD_eq_getElem?_getD, List.getElem?_eq_getElem hi]; rfl
    · rw [List.getElem?_eq_none (by simpa using hi), List.getElem?_eq_none (by lia)]
  exact h1.trans (List.Perm.of_eq h2)
theorem byOrder_inc {L : List Run} {p : Array Nat} (hp : Pm L.length p) (hI : Inc (fun i => numT (L.getD i (0, 0, 0))) p L.length) : (byOrder (0, 0, 0) L p).Pairwise fun x y => numT x < numT y := by
  unfold byOrder
  rw [List.pairwise_map, List.pairwise_iff_getElem]
  intro i j hi hj hij
  have hs := hp.size
  rw [Array.length_toList] at hi hj
  have := hI i j hij (by (clear hi; lia))
  dsimp only at this
  rw [Array.getD_eq_getD_getElem?, Array.getD_eq_getD_getElem?, Array.getElem?_eq_getElem hi, Array.getElem?_eq_getElem hj] at this
  exact this
section
variable {prog : Program} {w : World} {A : Around} {E : Value → Shared → Prop} {s : Shared} {vs : List Value} {L : List Run}
theorem list_sort_tups {a : Addr} {n : Nat} {P : PySem.Fin → Shared → Prop} (ho : s.heap.get? a = some (seqObj "list" vs.toArray n)) (hL : AreT s.heap vs L) (hok : ∀ x ∈ L, okT x) (hn : L.Nodup) (h64 : L.length < 64)
    (h : ∀ p : Array Nat, Pm L.length p → Inc (fun i => numT (L.getD i (0, 0, 0))) p L.length → P (.done (.ret .none)) { s with heap := sortedHeap s.heap a vs (List.toArray (byOrder Value.none vs p)) }) :
    wpAny (model prog w) A (Builtin.«list.sort» ⟨[.ref a], []⟩) P E s := by
  have hlen := hL.len
  have hsz : vs.toArray.size = vs.length := List.size_toArray
  have ha : a < s.heap.objs.size := Heap.lt_size ho
  rw [list_sort_plain]
  refine wpAny_bind (listItems_at ho rfl (wpAny_bind (listUpdate_at ho rfl ?_)))
  obtain ⟨e1, ho1⟩ : ∃ e1, (s.heap.update a (Obj.mapSeq fun _ => #[])).get? a = some (seqObj "list" #[] e1) := ⟨_, get?_update_seq ho (fun _ => #[])⟩
  refine wpAny_bind (seqEpoch_at ho1 rfl (wpAny_bind (wpAny_newTuple (wpAny_bind (wpAny_newList (wpAny_holding ?_))))))
  have keep : ∀ b o, b ≠ a → s.heap.get? b = some o → (((s.heap.update a (Obj.mapSeq fun _ => #[])).push (seqObj "tuple" vs.toArray 0)).push (seqObj "list" #[] 0)).get? b = some o := fun b o hb q => by
    refine Heap.get?_push_of_some _ (Heap.get?_push_of_some _ ?_)
    rw [Heap.get?_update_ne _ _ _ _ hb]; exact q
  have ho6 : (((s.heap.update a (Obj.mapSeq fun _ => #[])).push (seqObj "tuple" vs.toArray 0)).push (seqObj "list" #[] 0)).get? a = some (seqObj "list" #[] e1) := Heap.get?_push_of_some _ (Heap.get?_push_of_some _ ho1)
  have hL6 : AreT (((s.heap.update a (Obj.mapSeq fun _ => #[])).push (seqObj "tuple" vs.toArray 0)).push (seqObj "list" #[] 0)) vs L := hL.keep fun b o q c => keep b o (fun e => by
    subst e
    rw [ho] at q; cases q
    injection c with c
    exact absurd c (by decide)) q
  show wpAny (model prog w) A _ P E { s with heap := ((s.heap.update a (Obj.mapSeq fun _ => #[])).push (seqObj "tuple" vs.toArray 0)).push (seqObj "list" #[] 0) }
  dsimp only
  by_cases h2 : vs.toArray.size < 2
  · rw [if_pos h2, if_pos h2]
    refine wpAny_bind (wpAny_pure ?_)
    rw [StateT.run_pure]
    refine wpAny_bind (wpAny_pure ?_)
    dsimp only
    refine wpAny_bind (seqEpoch_at ho6 rfl (wpAny_bind (listUpdate_at ho6 rfl ?_ (hsz2 := by rw [Array.size_map]; show (pairsOf vs).size ≤ _; rw [pairsOf_size, sizeLine_eq]; (clear h2; lia)))))
    simp only [bne_self_eq_false, Bool.false_eq_true, if_false]
    have := h (List.toArray (List.range L.length)) (Array.Perm.refl _) (fun i j hij hj => by lia)
    have e : byOrder Value.none vs (List.toArray (List.range L.length)) = vs := by
      unfold byOrder
      apply List.ext_getElem?
      intro i
      by_cases hi : i < vs.length
      · rw [List.getElem?_map, List.getElem?_range (by (clear h2; lia)), List.getElem?_eq_getElem hi]
        show some (vs.getD i Value.none) = _
        rw [List.getD_eq_getElem?_getD, List.getElem?_eq_getElem hi]; rfl
      · rw [List.getElem?_eq_none (by simp; (clear h2; lia)), List.getElem?_eq_none (by (clear hlen h2; lia))]
    rw [e] at this
    have e2 : Array.map (·.2) (vs.toArray.zip vs.toArray) = vs.toArray := by
      rw [Array.map_snd_zip (Nat.le_refl _)]
    rw [e2]
    exact wpAny_pure this
  · rw [if_neg h2, if_neg h2]
    obtain ⟨fs, f1, f2, f3⟩ := hL6.tups
    refine wpAny_bind (kat_kind (T := .type "int") f1 (by (clear h64; lia)) (fun v hv => ?_) (by rfl) ?_)
    · obtain ⟨n, t, rfl⟩ := f3 v hv
      exact Looks.of_pure rfl
    have T := told_tups (prog := prog) (w := w) (A := A) (s := { s with heap := ((s.heap.update a (Obj.mapSeq fun _ => #[])).push (seqObj "tuple" vs.toArray 0)).push (seqObj "list" #[] 0) }) hL6 hok hn
    refine wpAny_bind (wpAny_mono (kat_run (ks := vs) (vs := vs) (Q := fun st' s' => s' = { s with heap := ((s.heap.update a (Obj.mapSeq fun _ => #[])).push (seqObj "tuple" vs.toArray 0)).push (seqObj "list" #[] 0) } ∧ failedOf st' = none ∧ ∃ p, Pm L.length p ∧ Inc (fun i => numT (L.getD i (0, 0, 0))) p L.length ∧ (arrOf st').map (·.2) = List.toArray (byOrder Value.none vs p))
      (G := fun p s' => s' = { s with heap := ((s.heap.update a (Obj.mapSeq fun _ => #[])).push (seqObj "tuple" vs.toArray 0)).push (seqObj "list" #[] 0) } ∧ Pm L.length p ∧ Inc (fun i => numT (L.getD i (0, 0, 0))) p L.length) rfl (by (clear hlen; lia)) (by lia) (fun p st' s' g1 g2 g3 ⟨q1, q2, q3⟩ => ⟨q1, g3, p, q2, q3, kat_snds (ks := vs) (vs := vs) rfl g2⟩) ?_) ?_ fun _ _ e => e)
    · rw [hlen]
      exact sort_tree_ok T (by (clear h64; lia)) fun p p1 p2 => ⟨rfl, p1, p2⟩
    rintro ⟨⟨⟩, st'⟩ s' ⟨rfl, g3, p, p1, p2, e3⟩
    dsimp only at g3 e3 ⊢
    refine wpAny_bind (seqEpoch_at ho6 rfl (wpAny_bind (listUpdate_at ho6 rfl ?_ (hsz2 := ?_))))
    · rw [g3]
      simp only [bne_self_eq_false, Bool.false_eq_true, if_false]
      rw [e3]
      exact wpAny_pure (h p p1 p2)
    · rw [e3, List.size_toArray]
      unfold byOrder
      rw [List.length_map, Array.length_toList, p1.size, sizeLine_eq]; lia
theorem sorted_tups {l : Addr} {Q : Value → Shared → Prop} (hl : s.heap.IsList l vs.toArray) (hL : AreT s.heap vs L) (hok : ∀ x ∈ L, okT x) (hn : L.Nodup) (h64 : L.length < 64)
    (h : ∀ p : Array Nat, Pm L.length p → Inc (fun i => numT (L.getD i (0, 0, 0))) p L.length → Q (.ref (s.heap.objs.size + 1)) { s with heap := sortedAll s.heap vs (List.toArray (byOrder Value.none vs p)) }) :
    wpAny (model prog w) A (call (.builtin "sorted") [.ref l] []) Q E s := by
  have hlen := hL.len
  refine call_function_entry kind_sorted plain_sorted entry_sorted (args_sorted1 _) ?_
  unfold Builtin.«sorted»
  refine wpAny_bind (m := checkCount "sorted" 1 1 _) (wpAny_pure (wpAny_bind (collect_list hl ?_ (by rw [sizeLine_eq]; lia))))
  refine wpAny_bind (wpAny_newList ?_ (by rw [sizeLine_eq]; lia))
  have hsz : ((s.heap.push (seqObj "list" #[] 0)).update s.heap.objs.size (Obj.mapSeq (· ++ vs.toArray))).objs.size = s.heap.objs.size + 1 := by rw [Heap.size_update, size_push']
  have hoL : (((s.heap.push (seqObj "list" #[] 0)).update s.heap.objs.size (Obj.mapSeq (· ++ vs.toArray))).push (seqObj "list" vs.toArray 0)).get? (s.heap.objs.size + 1) = some (seqObj "list" vs.toArray 0) := by
    rw [← hsz]; exact Heap.get?_push_size _ rfl
  have hL2 : AreT (((s.heap.push (seqObj "list" #[] 0)).update s.heap.objs.size (Obj.mapSeq (· ++ vs.toArray))).push (seqObj "list" vs.toArray 0)) vs L := hL.keep fun b o q _ => by
    refine Heap.get?_push_of_some _ ?_
    rw [Heap.get?_update_ne _ _ _ _ (Nat.ne_of_lt (Heap.lt_size q))]
    exact Heap.get?_push_of_some _ q
  show wpAny _ _ _ _ _ { s with heap := ((s.heap.push (seqObj "list" #[] 0)).update s.heap.objs.size (Obj.mapSeq (· ++ vs.toArray))).push (seqObj "list" vs.toArray 0) }
  rw [hsz]
  refine wpAny_bind (wpAny_holding (wpAny_call_entry slot_list_sort ⟨_, hoL, rfl⟩ entry_list_sort (list_sort_tups hoL hL2 hok hn h64 fun p p1 p2 => ⟨_, rfl, ?_⟩) (args_list_sort _)))
  exact wpAny_pure ⟨_, rfl, h p p1 p2⟩
end
theorem areT_of {φ : Store} {β : Addr} {h : Heap} (hφ : ∀ b o, φ b = some o → h.get? b = some o) : ∀ {vs : List Value} {L : List Run}, Reps φ β vs (L.map runD) → AreT h vs L
  | vs, [], r => by rw [Reps.nil_inv r]; trivial
  | vs, x :: L, r => by
    obtain ⟨v, ws, rfl, q, r'⟩ := Reps.cons_inv r
    obtain ⟨a, us, n, rfl, g, r2⟩ := Rep.tuple_inv q
    obtain ⟨v1, w1, rfl, q1, r3⟩ := Reps.cons_inv r2
    obtain ⟨v2, w2, rfl, q2, r4⟩ := Reps.cons_inv r3
    obtain ⟨v3, w3, rfl, q3, r5⟩ := Reps.cons_inv r4
    obtain rfl := Reps.nil_inv r5
    obtain ⟨t1, rfl⟩ := Rep.int_inv q1
    obtain ⟨t2, rfl⟩ := Rep.int_inv q2
    obtain ⟨t3, rfl⟩ := Rep.int_inv q3
    exact ⟨⟨a, n, t1, t2, t3, rfl, hφ _ _ g⟩, areT_of hφ r'⟩
theorem Reps.byOrder {φ : Store} {β : Addr} {vs : List Value} {L : List Run} (r : Reps φ β vs (L.map runD)) {l : List Nat} (hl : ∀ i ∈ l, i < L.length) : Reps φ β (l.map fun i => vs.getD i Value.none) ((l.map fun i => L.getD i (0, 0, 0)).map runD) := by
  induction l with
  | nil => exact .nil
  | cons i l ih =>
    have hi := hl i (.head _)
    have e : (L.map runD)[i]? = some (runD (L.getD i (0, 0, 0))) := by rw [List.getElem?_map, List.getD_eq_getElem?_getD, List.getElem?_eq_getElem hi]; rfl
    obtain ⟨v, h1, h2⟩ := r.get e
    have e2 : vs.getD i Value.none = v := by rw [List.getD_eq_getElem?_getD, h1]; rfl
    rw [List.map_cons, List.map_cons, List.map_cons, e2]
    exact .cons h2 (ih fun j hj => hl j (.tail _ hj))
theorem sorted_t {C : Cx} {k : R → Prop} {r : R} {L : List Run} (hi : r.items = some (L.map runD)) (hok : ∀ x ∈ L, okT x) (hn : L.Nodup) (h64 : L.length < 64) (h : ∀ M : List Run, M.Perm L → M.Pairwise (fun x y => numT x < numT y) → k (.own (M.map runD))) : Op1 C (fun v => call (.builtin "sorted") [v] []) r k :=
  ⟨fun m F A env Ψ φ ρ vars bs s v hA X g => by
    obtain ⟨a, vs, n, rfl, i1, i2⟩ := RV.view X g hi
    refine sorted_tups (vs := vs.toList) (L := L) (by simpa using IsListOf i1) (areT_of X.G.fro i2) hok hn h64 fun p p1 p2 => ?_
    obtain ⟨e, he⟩ := sortedAll_at s.heap vs.toList (List.toArray (Mine.byOrder Value.none vs.toList p))
    have hr : Reps φ C.β (List.toArray (Mine.byOrder Value.none vs.toList p)).toList ((Mine.byOrder (0, 0, 0) L p).map runD) := i2.byOrder fun i hi => by
      have := (Array.perm_iff_toList_perm.mp p1).mem_iff.mp hi
      simpa using this
    obtain ⟨X2, hv⟩ := X.newOwn (tk := s.toks) (a := s.heap.objs.size + 1) (fun b o q => sortedAll_old q) (get?_ge (Nat.le_succ _)) he hr
    exact ⟨φ, _, Store.Le.refl φ, X2, hv, h _ (byOrder_perm p1) (byOrder_inc p1 p2)⟩⟩
end Mine
end
namespace Mine
open PySem PySem.W PySem.Calls PyProof.Rows PySem.Spec MeetsSeq
local macro_rules | `(tactic| walk_at "mine") => `(tactic| first
  | refine EvD_nil ?_
  | refine EvD_cons ?_ (by rfl)
  | refine EvL_nil ?_
  | refine EvL_cons ?_ (by rfl)
  | refine Ex_cons ?_
  | refine Ex_nil ?_
  | refine Ex1_ret ?_
  | refine Ex1_if ?_
  | refine Ts_cmp ?_ (by rfl)
  | refine Ts_boolop (TsA_and ?_)
  | refine Ts_not ?_
  | refine Ev_int ?_
  | refine Ev_bool ?_
  | refine Ev_none ?_
  | refine Ev_name (by rfl) (by rfl) ?_
  | refine Ev_name_mu (by rfl) (by rfl) ?_
  | refine Ev_bin ?_
  | refine Ev_cmp ?_ (by rfl)
  | refine Ev_slice ?_
  | refine Ev_sub ?_ (by rfl)
  | refine Ev_len (by assumption) (by rfl) (by rfl) (by rfl) ?_
  | refine Ev_min (by assumption) (by rfl) (by rfl) (by rfl) ?_
  | refine Ev_range (by assumption) (by rfl) (by rfl) (by rfl) ?_
  | refine add_i ?_ | refine sub_i ?_ | refine lt_i ?_ | refine gt_i ?_ | refine le_i ?_ | refine ge_i ?_ | refine eq_i ?_ | refine ne_i ?_ | refine iadd_i ?_ | refine neg_i ?_)
section
set_option maxRecDepth 100000
set_option linter.unusedVariables false
theorem D_limit {C : Cx} (ok : C.Ok) : DefAt C 138 ["self", "place", "most"] (bodyAt C.K 138) (scAt C.K 138) := by
  refine DefAt.of ok (by rfl) fun fd e vs hl s X => bindsN X fun S => ?_
  cases e
  obtain ⟨a, b, c, rfl⟩ := len3 hl
  rfl
theorem D_alike {C : Cx} (ok : C.Ok) : DefAt C 152 ["self", "place", "other", "known", "limit"] (bodyAt C.K 152) (scAt C.K 152) := by
  refine DefAt.of ok (by rfl) fun fd e vs hl s X => bindsN X fun S => ?_
  cases e
  obtain ⟨a, b, c, d, f, rfl⟩ := len5 hl
  rfl
/-- what of an object of the project the walk needs -/
structure Obj (C : Cx) (Cl : Addr) (fs : List (Str × D)) (oc : List Int) (w : Nat) : Prop where
  octets : fs.lookup ("octets" : Str) = some (.bytes oc)
  window : fs.lookup ("window" : Str) = some (.int w)
  f1 : FieldOk C.K Cl "octets"
  f2 : FieldOk C.K Cl "window"
  m1 : MethOk C.K Cl "limit" 138 ∧ fs.lookup ("limit" : Str) = none
  m2 : MethOk C.K Cl "alike" 152 ∧ fs.lookup ("alike" : Str) = none
  m3 : MethOk C.K Cl "length" 145 ∧ fs.lookup ("length" : Str) = none
  m4 : MethOk C.K Cl "repeat" 166 ∧ fs.lookup ("repeat" : Str) = none
  size : oc.length ≤ 1000
theorem limit_ok {C : Cx} (ok : C.Ok) {n w : Nat} {Cl : Addr} {fs : List (Str × D)} {oc : List Int} {p m : Int} {bs : BS} {Q : BS → R → Prop}
    (ho : Obj C Cl fs oc w) (h : Q bs (.val (.int (min m (oc.length - p))))) : Fn C (n + 1) (.ref 138) [.inst Cl fs, .int p, .int m] bs Q := by
  refine Fn_def ok (D_limit ok) rfl (by rfl) ?_
  repeat (walk_at "mine")
  refine Ev_attr ok (d := .inst Cl fs) (by rfl) (by rfl) (.own ho.f1 ho.octets rfl) ?_
  refine len_by (by have := ho.size; lia) ?_
  repeat (walk_at "mine")
  exact min_ii h
theorem alike_ok {C : Cx} (ok : C.Ok) {n w : Nat} {Cl : Addr} {fs : List (Str × D)} {oc : List Int} {p o l : Nat} {bs : BS} {Q : BS → R → Prop}
    (ho : Obj C Cl fs oc w) (hl : p + l ≤ oc.length) (hop : o < p) (h : Q bs (.val (.int (alikeF oc p o l 0)))) : Fn C (n + 1) (.ref 152) [.inst Cl fs, .int p, .int o, .int 0, .int l] bs Q := by
  refine Fn_def ok (D_alike ok) rfl (by rfl) ?_
  have hsz := ho.size
  refine Ex_cons (Ex1_assign ?_ (by rfl) (by rfl))
  refine Ev_attr ok (d := .inst Cl fs) (by rfl) (by rfl) (.own ho.f1 ho.octets rfl) ?_
  refine Ex_cons (Ex1_whileS (fun k : Nat => k ≤ l ∧ alikeF oc p o (l - k) k = alikeF oc p o l 0) (fun k => [("known", .val (.int k)), ("octets", .val (.bytes oc)), ("place", .val (.int p)), ("other", .val (.int o)), ("limit", .val (.int l))]) (fun _ => bs) (fun k => l - k)
    ⟨0, ⟨Nat.zero_le _, rfl⟩, SubV.all (by rfl), rfl⟩ fun k ⟨h1, h2⟩ I fin => ?_)
  refine Ts_boolop (TsA_and ?_)
  repeat (walk_at "mine")
  refine And.intro (fun t => ?_) (fun t => ?_)
  · have hk : k < l := by have := of_decide_eq_true t; (clear hl hop; omega)
    refine TsA_and ?_
    repeat (walk_at "mine")
    have g1 : p + k < oc.length := by (clear t; lia)
    have g2 : o + k < oc.length := by (clear hl t; lia)
    refine ⟨rfl, item_by (c := oc[p + k]) (by (clear hl hop; lia)) (by lia) (by rw [show ((p : Int) + (k : Int)).toNat = p + k by lia]; simp [g1]) ?_⟩
    repeat (walk_at "mine")
    refine ⟨rfl, item_by (c := oc[o + k]) (by (clear hop; lia)) (by lia) (by rw [show ((o : Int) + (k : Int)).toNat = o + k by (clear hop; lia)]; simp [g2]) ?_⟩
    refine eq_i ?_
    have step : alikeF oc p o (l - k) k = if oc[p + k]? = oc[o + k]? then alikeF oc p o (l - (k + 1)) (k + 1) else k := by
      rw [show l - k = (l - (k + 1)) + 1 by (clear hl; lia)]; rfl
    refine And.intro (fun t => TsA_and_nil (And.intro (fun _ => ?_) (fun t => nomatch t))) (fun t => And.intro (fun t => nomatch t) (fun _ => ?_))
    · have e := of_decide_eq_true t
      refine Ex_cons (Ex1_aug (by rfl) (by rfl) ?_ (by rfl))
      repeat (walk_at "mine")
      refine fin _ _ ⟨k + 1, by (clear hl; lia), ⟨by assumption, ?_⟩, SubV.all (by rfl), rfl⟩
      rw [← h2, step, if_pos (by simp [g1, g2, e])]
    · have e := of_decide_eq_false t
      repeat (walk_at "mine")
      have : alikeF oc p o l 0 = k := by rw [← h2, step, if_neg (by simp [g1, g2]; exact e)]
      rw [this] at h; exact h
  · have hk : ¬ k < l := by have := of_decide_eq_false t; (clear hl t; lia)
    refine And.intro (fun t => nomatch t) (fun _ => ?_)
    repeat (walk_at "mine")
    have : alikeF oc p o l 0 = k := by rw [← h2, show l - k = 0 by (clear hl t; lia)]; rfl
    rw [this] at h; exact h
theorem D_length {C : Cx} (ok : C.Ok) : DefAt C 145 ["self", "place", "other", "most"] (bodyAt C.K 145) (scAt C.K 145) := by
  refine DefAt.of ok (by rfl) fun fd e vs hl s X => bindsN X fun S => ?_
  cases e
  obtain ⟨a, b, c, d, rfl⟩ := len4 hl
  rfl
theorem D_repeat {C : Cx} (ok : C.Ok) : DefAt C 166 ["self", "place", "distance", "most"] (bodyAt C.K 166) (scAt C.K 166) := by
  refine DefAt.of ok (by rfl) fun fd e vs hl s X => bindsN X fun S => ?_
  cases e
  obtain ⟨a, b, c, d, rfl⟩ := len4 hl
  rfl
theorem length_ok {C : Cx} (ok : C.Ok) {n w : Nat} {Cl : Addr} {fs : List (Str × D)} {oc : List Int} {p o m : Nat} {bs : BS} {Q : BS → R → Prop}
    (ho : Obj C Cl fs oc w) (hp : p ≤ oc.length) (hop : o < p) (h : Q bs (.val (.int (lenN oc p o m)))) : Fn C (n + 2) (.ref 145) [.inst Cl fs, .int p, .int o, .int m] bs Q := by
  refine Fn_def ok (D_length ok) rfl (by rfl) ?_
  refine Ex_cons (Ex1_if (Ts_not (Ts_cmp2 ?_ (by rfl))))
  repeat (walk_at "mine")
  refine And.intro (fun _ => ?_) (fun t => absurd (of_decide_eq_false t) (by (clear t; lia)))
  repeat (walk_at "mine")
  refine And.intro (fun t => ?_) (fun _ => ?_)
  · exact absurd (show (!decide ((o : Int) < (p : Int))) = true from t) (by simp [hop])
  repeat (walk_at "mine")
  refine Ev_meth (n := n + 1) ok (by rfl) (by rfl) ho.m2.1 ho.m2.2 ?_ (Nat.le_refl _) (by rfl) (by rfl) (by decide)
  repeat (walk_at "mine")
  refine Ev_meth (n := n + 1) ok (by rfl) (by rfl) ho.m1.1 ho.m1.2 ?_ (Nat.le_refl _) (by rfl) (by rfl) (by decide)
  repeat (walk_at "mine")
  refine limit_ok ok ho ?_
  refine EvD_nil ?_
  rw [show (min (m : Int) ((oc.length : Int) - (p : Int))) = ((min m (oc.length - p) : Nat) : Int) by lia]
  exact alike_ok ok ho (by lia) hop h
theorem repeat_ok {C : Cx} (ok : C.Ok) {n w : Nat} {Cl : Addr} {fs : List (Str × D)} {oc : List Int} {p d m : Nat} {bs : BS} {Q : BS → R → Prop}
    (ho : Obj C Cl fs oc w) (hp : p ≤ oc.length) (h : Q bs (.val (.int (repN oc w p d m)))) : Fn C (n + 3) (.ref 166) [.inst Cl fs, .int p, .int d, .int m] bs Q := by
  refine Fn_def ok (D_repeat ok) rfl (by rfl) ?_
  have fin0 : (d < 1 ∨ p < d ∨ w < d) → Q bs (.val (.int 0)) := fun c => by
    have : repN oc w p d m = 0 := by unfold repN; rw [if_pos c]
    rw [this] at h; exact h
  refine Ex_cons (Ex1_if (Ts_boolop (TsA_or ?_)))
  repeat (walk_at "mine")
  refine And.intro (fun t => ?_) (fun t1 => TsA_or ?_)
  · refine And.intro (fun _ => ?_) (fun t => nomatch t)
    repeat (walk_at "mine")
    exact fin0 (.inl (by have := of_decide_eq_true t; (clear t; lia)))
  repeat (walk_at "mine")
  refine And.intro (fun t => ?_) (fun t2 => TsA_or ?_)
  · refine And.intro (fun _ => ?_) (fun t => nomatch t)
    repeat (walk_at "mine")
    exact fin0 (.inr (.inl (by have := of_decide_eq_true t; (clear hp t; lia))))
  repeat (walk_at "mine")
  refine Ev_attr ok (d := .inst Cl fs) (by rfl) (by rfl) (.own ho.f2 ho.window rfl) ?_
  repeat (walk_at "mine")
  refine And.intro (fun t => ?_) (fun t3 => TsA_or_nil ?_)
  · refine And.intro (fun _ => ?_) (fun t => nomatch t)
    repeat (walk_at "mine")
    exact fin0 (.inr (.inr (by have := of_decide_eq_true t; (clear t; lia))))
  refine And.intro (fun t => nomatch t) (fun _ => ?_)
  have e1 := of_decide_eq_false t1
  have e2 := of_decide_eq_false t2
  have e3 := of_decide_eq_false t3
  repeat (walk_at "mine")
  refine Ev_meth (n := n + 2) ok (by rfl) (by rfl) ho.m3.1 ho.m3.2 ?_ (Nat.le_refl _) (by rfl) (by rfl) (by decide)
  repeat (walk_at "mine")
  rw [show ((p : Int) - (d : Int)) = ((p - d : Nat) : Int) by (clear hp; lia)]
  refine length_ok ok ho hp (by (clear hp e3; omega)) ?_
  have : repN oc w p d m = lenN oc p (p - d) m := by unfold repN; rw [if_neg (by (clear hp; omega))]
  rw [this] at h; exact h
theorem D_minit {C : Cx} (ok : C.Ok) : DefAt C 110 ["self", "octets", "least", "window", "chain"] (bodyAt C.K 110) (scAt C.K 110) := by
  refine DefAt.of ok (by rfl) fun fd e vs hl s X => bindsN X fun S => ?_
  cases e
  obtain ⟨a, b, c, d, f, rfl⟩ := len5 hl
  rfl
theorem D_pinit {C : Cx} (ok : C.Ok) : DefAt C 68 ["self", "octets", "size"] (bodyAt C.K 68) (scAt C.K 68) := by
  refine DefAt.of ok (by rfl) fun fd e vs hl s X => bindsN X fun S => ?_
  cases e
  obtain ⟨a, b, c, rfl⟩ := len3 hl
  rfl
theorem D_finit {C : Cx} (ok : C.Ok) : DefAt C 202 ["self", "octets", "least", "window", "chain"] (bodyAt C.K 202) (scAt C.K 202) := by
  refine DefAt.of ok (by rfl) fun fd e vs hl s X => bindsN X fun S => ?_
  cases e
  obtain ⟨a, b, c, d, f, rfl⟩ := len5 hl
  rfl
theorem D_tinit {C : Cx} (ok : C.Ok) : DefAt C 243 ["self", "octets", "least", "window", "chain"] (bodyAt C.K 243) (scAt C.K 243) := by
  refine DefAt.of ok (by rfl) fun fd e vs hl s X => bindsN X fun S => ?_
  cases e
  obtain ⟨a, b, c, d, f, rfl⟩ := len5 hl
  rfl
theorem D_linit {C : Cx} (ok : C.Ok) : DefAt C 290 ["self", "octets", "window", "chain"] (bodyAt C.K 290) (scAt C.K 290) := by
  refine DefAt.of ok (by rfl) fun fd e vs hl s X => bindsN X fun S => ?_
  cases e
  obtain ⟨a, b, c, d, rfl⟩ := len4 hl
  rfl
noncomputable def stdFs (oc : List Int) (l w c : Int) : List (Str × D) := [("octets", .bytes oc), ("least", .int l), ("window", .int w), ("chain", .int c), ("ahead", .int 0)]
/-- the class has the five names of a Matcher to store under -/
structure StdCls (C : Cx) (Cl : Addr) : Prop where
  s1 : StoreOk C.K Cl "octets"
  s2 : StoreOk C.K Cl "least"
  s3 : StoreOk C.K Cl "window"
  s4 : StoreOk C.K Cl "chain"
  s5 : StoreOk C.K Cl "ahead"
theorem minit_ok {C : Cx} (ok : C.Ok) {n : Nat} {Cl : Addr} {oc : List Int} {l w c : Int} {Q : BS → R → Prop}
    (hc : StdCls C Cl) (h1 : 1 ≤ l) (h2 : 1 ≤ w) (h3 : 1 ≤ c) (h : Q (some (.flds (stdFs oc l w c))) (.val .none)) : Fn C (n + 1) (.ref 110) [.self Cl, .bytes oc, .int l, .int w, .int c] (some (.flds [])) Q := by
  refine Fn_def ok (D_minit ok) rfl (by rfl) ?_
  repeat (walk_at "mine")
  refine And.intro (fun t => absurd (of_decide_eq_true t) (by (clear t; lia))) (fun _ => ?_)
  repeat (walk_at "mine")
  refine And.intro (fun t => absurd (of_decide_eq_true t) (by (clear t; lia))) (fun _ => ?_)
  repeat (walk_at "mine")
  refine And.intro (fun t => absurd (of_decide_eq_true t) (by (clear t; lia))) (fun _ => ?_)
  refine Ex_nil ?_
  refine Ex_cons (Ex1_setattr ok (Cl := Cl) (by rfl) (by rfl) hc.s1 (by rfl) ?_)
  refine Ev_bytes ok (by rfl) (by rfl) (by rfl) (Ev_name (by rfl) (by rfl) (bytes_b ⟨_, rfl, by rfl, by decide, ?_⟩))
  refine Ex_cons (Ex1_setattr ok (Cl := Cl) (by rfl) (by rfl) hc.s2 (by rfl) (Ev_name (by rfl) (by rfl) ⟨_, rfl, by rfl, by simp, ?_⟩))
  refine Ex_cons (Ex1_setattr ok (Cl := Cl) (by rfl) (by rfl) hc.s3 (by rfl) (Ev_name (by rfl) (by rfl) ⟨_, rfl, by rfl, by simp, ?_⟩))
  refine Ex_cons (Ex1_setattr ok (Cl := Cl) (by rfl) (by rfl) hc.s4 (by rfl) (Ev_name (by rfl) (by rfl) ⟨_, rfl, by rfl, by simp, ?_⟩))
  refine Ex_cons (Ex1_setattr ok (Cl := Cl) (by rfl) (by rfl) hc.s5 (by rfl) (Ev_int ⟨_, rfl, by rfl, by simp, ?_⟩))
  exact Ex_nil h
theorem prow_ok {C : Cx} (ok : C.Ok) {n : Nat} {oc : List Int} {l : Int} {bs : BS} {Q : BS → R → Prop}
    (h1 : 1 ≤ l) (hz : oc.length ≤ 1000) (h : ∀ fs, Q bs (.val (.inst 92 fs))) : Fn C (n + 2) (.ref 92) [.bytes oc, .int l] bs Q := by
  refine Fn_class (fI := 68) ok (by rfl) (by rfl) (by rfl) (by rfl) fun β => ?_
  refine Fn_def (C := C.at β) (ok.at β) (D_pinit (C := C.at β) (ok.at β)) rfl (by rfl) ?_
  have ok' := ok.at β
  repeat (walk_at "mine")
  refine And.intro (fun t => absurd (of_decide_eq_true t) (by (clear t; lia))) (fun _ => ?_)
  refine Ex_nil ?_
  refine Ex_cons (Ex1_setattr ok' (Cl := 92) (by rfl) (by rfl) ⟨by rfl, by rfl, by rfl, by rfl⟩ (by rfl) (Ev_name (by rfl) (by rfl) ⟨_, rfl, by rfl, by simp, ?_⟩))
  refine Ex_cons (Ex1_setattr ok' (Cl := 92) (by rfl) (by rfl) ⟨by rfl, by rfl, by rfl, by rfl⟩ (by rfl) (Ev_name (by rfl) (by rfl) ⟨_, rfl, by rfl, by simp, ?_⟩))
  refine Ex_cons (Ex1_setattr ok' (Cl := 92) (by rfl) (by rfl) ⟨by rfl, by rfl, by rfl, by rfl⟩ (by rfl) (Ev_dict0 ⟨_, rfl, by rfl, by simp, ?_⟩))
  refine Ex_cons (Ex1_setattr ok' (Cl := 92) (by rfl) (by rfl) ⟨by rfl, by rfl, by rfl, by rfl⟩ (by rfl) (Ev_bin (Ev_list (EvD_cons (Ev_top ok' (by rfl) (by rfl) (by rfl) (EvD_nil ⟨by decide, ?_⟩)) (by rfl)))))
  refine Ev_len ok' (by rfl) (by rfl) (by rfl) (Ev_name (by rfl) (by rfl) (len_by (by lia) ?_))
  refine mul_l (d1 := [.int (-1)]) (by rfl) (by lia) (by simp; lia) ?_
  refine ⟨_, rfl, by rfl, by simp, ?_⟩
  exact Ex_nil ⟨rfl, _, rfl, h _⟩
end
section
set_option maxRecDepth 100000
set_option linter.unusedVariables false
theorem obj_of {C : Cx} {Cl : Addr} (hCl : Cl = 226 ∨ Cl = 274 ∨ Cl = 307) {oc : List Int} {l c : Int} {w : Nat} {more : List (Str × D)} (hz : oc.length ≤ 1000)
    (h1 : more.lookup ("limit" : Str) = none) (h2 : more.lookup ("alike" : Str) = none) (h3 : more.lookup ("length" : Str) = none) (h4 : more.lookup ("repeat" : Str) = none) : Obj C Cl (stdFs oc l w c ++ more) oc w := by
  rcases hCl with rfl | rfl | rfl
  all_goals exact ⟨rfl, rfl, ⟨by rfl, by rfl, none, by rfl, by rfl⟩, ⟨by rfl, by rfl, none, by rfl, by rfl⟩, ⟨⟨by rfl, by rfl, by rfl, by rfl⟩, h1⟩, ⟨⟨by rfl, by rfl, by rfl, by rfl⟩, h2⟩, ⟨⟨by rfl, by rfl, by rfl, by rfl⟩, h3⟩, ⟨⟨by rfl, by rfl, by rfl, by rfl⟩, h4⟩, hz⟩
theorem finder_ok {C : Cx} (ok : C.Ok) {n : Nat} {oc : List Int} {l c : Int} {w : Nat} {bs : BS} {Q : BS → R → Prop}
    (h1 : 1 ≤ l) (h2 : 1 ≤ w) (h3 : 1 ≤ c) (hz : oc.length ≤ 1000) (h : ∀ fs, Obj C 226 fs oc w → Q bs (.val (.inst 226 fs))) : Fn C (n + 4) (.ref 226) [.bytes oc, .int l, .int w, .int c] bs Q := by
  refine Fn_class (fI := 202) ok (by rfl) (by rfl) (by rfl) (by rfl) fun β => ?_
  refine Fn_def (C := C.at β) (ok.at β) (D_finit (C := C.at β) (ok.at β)) rfl (by rfl) ?_
  have ok' := ok.at β
  have ho := fun (more : List (Str × D)) => obj_of (C := C) (more := more) (l := l) (c := c) (w := w) (.inl rfl) hz
  refine Ex_cons (Ex1_expr (by rfl) ?_)
  refine Ev_clsfn (n := n + 1) (Cl := 183) (f := 110) ok' (mg_of ok' (by rfl)) (by rfl) (by rfl) ⟨by rfl, ⟨.type "type", by rfl, by rfl⟩, by rfl⟩ ?_ (by show n + 1 ≤ n + 2; lia) (by rfl) (by rfl) (by decide)
  repeat (walk_at "mine")
  refine minit_ok ok' ⟨⟨by rfl, by rfl, by rfl, by rfl⟩, ⟨by rfl, by rfl, by rfl, by rfl⟩, ⟨by rfl, by rfl, by rfl, by rfl⟩, ⟨by rfl, by rfl, by rfl, by rfl⟩, ⟨by rfl, by rfl, by rfl, by rfl⟩⟩ h1 (by lia) h3 ?_
  refine And.intro rfl ?_
  refine Ex_cons (Ex1_setattr ok' (Cl := 226) (by rfl) (by rfl) ⟨by rfl, by rfl, by rfl, by rfl⟩ (by rfl) ?_)
  refine Ev_fun (f := 92) (n := n + 2) ok' (by rfl) (by rfl) (by rfl) (by rfl) (by show n + 2 ≤ n + 2; lia) (by rfl) ?_
  refine EvD_cons (Ev_attr ok' (d := .self 226) (by rfl) (by rfl) (.sown rfl ⟨by rfl, by rfl, none, by rfl, by rfl⟩ (by rfl) (by rfl)) ?_) (by rfl)
  repeat (walk_at "mine")
  refine prow_ok ok' h1 hz fun fs => ?_
  refine ⟨_, rfl, by rfl, by simp [stdFs], ?_⟩
  exact Ex_nil ⟨rfl, _, rfl, h _ (ho [("row", .any)] (by rfl) (by rfl) (by rfl) (by rfl))⟩
theorem tree_ok {C : Cx} (ok : C.Ok) {n : Nat} {oc : List Int} {l c : Int} {w : Nat} {bs : BS} {Q : BS → R → Prop}
    (h1 : 1 ≤ l) (h2 : 1 ≤ w) (h3 : 1 ≤ c) (hz : oc.length ≤ 1000) (h : ∀ fs, Obj C 274 fs oc w → Q bs (.val (.inst 274 fs))) : Fn C (n + 4) (.ref 274) [.bytes oc, .int l, .int w, .int c] bs Q := by
  refine Fn_class (fI := 243) ok (by rfl) (by rfl) (by rfl) (by rfl) fun β => ?_
  refine Fn_def (C := C.at β) (ok.at β) (D_tinit (C := C.at β) (ok.at β)) rfl (by rfl) ?_
  have ok' := ok.at β
  have ho := fun (more : List (Str × D)) => obj_of (C := C) (more := more) (l := l) (c := c) (w := w) (.inr (.inl rfl)) hz
  refine Ex_cons (Ex1_expr (by rfl) ?_)
  refine Ev_clsfn (n := n + 1) (Cl := 183) (f := 110) ok' (mg_of ok' (by rfl)) (by rfl) (by rfl) ⟨by rfl, ⟨.type "type", by rfl, by rfl⟩, by rfl⟩ ?_ (by show n + 1 ≤ n + 2; lia) (by rfl) (by rfl) (by decide)
  repeat (walk_at "mine")
  refine minit_ok ok' ⟨⟨by rfl, by rfl, by rfl, by rfl⟩, ⟨by rfl, by rfl, by rfl, by rfl⟩, ⟨by rfl, by rfl, by rfl, by rfl⟩, ⟨by rfl, by rfl, by rfl, by rfl⟩, ⟨by rfl, by rfl, by rfl, by rfl⟩⟩ h1 (by lia) h3 ?_
  refine And.intro rfl ?_
  refine Ex_cons (Ex1_setattr ok' (Cl := 274) (by rfl) (by rfl) ⟨by rfl, by rfl, by rfl, by rfl⟩ (by rfl) ?_)
  refine Ev_fun (f := 92) (n := n + 2) ok' (by rfl) (by rfl) (by rfl) (by rfl) (by show n + 2 ≤ n + 2; lia) (by rfl) ?_
  refine EvD_cons (Ev_attr ok' (d := .self 274) (by rfl) (by rfl) (.sown rfl ⟨by rfl, by rfl, none, by rfl, by rfl⟩ (by rfl) (by rfl)) ?_) (by rfl)
  repeat (walk_at "mine")
  refine prow_ok ok' h1 hz fun fs => ?_
  refine ⟨_, rfl, by rfl, by simp [stdFs], ?_⟩
  refine Ex_cons (Ex1_setattr ok' (Cl := 274) (by rfl) (by rfl) ⟨by rfl, by rfl, by rfl, by rfl⟩ (by rfl) (Ev_dict0 ⟨_, rfl, by rfl, by simp [stdFs], ?_⟩))
  refine Ex_cons (Ex1_setattr ok' (Cl := 274) (by rfl) (by rfl) ⟨by rfl, by rfl, by rfl, by rfl⟩ (by rfl) (Ev_bin (Ev_list (EvD_cons (Ev_top ok' (by rfl) (by rfl) (by rfl) (EvD_nil ⟨by decide, ?_⟩)) (by rfl)))))
  refine Ev_len ok' (by rfl) (by rfl) (by rfl) (Ev_attr ok' (d := .self 274) (by rfl) (by rfl) (.sown rfl ⟨by rfl, by rfl, none, by rfl, by rfl⟩ (by rfl) (by rfl)) (len_by (by lia) ?_))
  refine mul_l (d1 := [.int (-1)]) (by rfl) (by lia) (by simp; lia) ?_
  refine ⟨_, rfl, by rfl, by simp [stdFs], ?_⟩
  refine Ex_cons (Ex1_setattr ok' (Cl := 274) (by rfl) (by rfl) ⟨by rfl, by rfl, by rfl, by rfl⟩ (by rfl) (Ev_bin (Ev_list (EvD_cons (Ev_top ok' (by rfl) (by rfl) (by rfl) (EvD_nil ⟨by decide, ?_⟩)) (by rfl)))))
  refine Ev_len ok' (by rfl) (by rfl) (by rfl) (Ev_attr ok' (d := .self 274) (by rfl) (by rfl) (.sown rfl ⟨by rfl, by rfl, none, by rfl, by rfl⟩ (by rfl) (by rfl)) (len_by (by lia) ?_))
  refine mul_l (d1 := [.int (-1)]) (by rfl) (by lia) (by simp; lia) ?_
  refine ⟨_, rfl, by rfl, by simp [stdFs], ?_⟩
  exact Ex_nil ⟨rfl, _, rfl, h _ (ho [("row", .any), ("roots", .any), ("smaller", .any), ("greater", .any)] (by rfl) (by rfl) (by rfl) (by rfl))⟩
end
section
set_option maxRecDepth 100000
set_option linter.unusedVariables false
theorem layered_ok {C : Cx} (ok : C.Ok) {n : Nat} {oc : List Int} {c : Int} {w : Nat} {bs : BS} {Q : BS → R → Prop}
    (h2 : 1 ≤ w) (h3 : 1 ≤ c) (hz : oc.length ≤ 1000) (h : ∀ fs, Obj C 307 fs oc w → Q bs (.val (.inst 307 fs))) : Fn C (n + 6) (.ref 307) [.bytes oc, .int w, .int c] bs Q := by
  refine Fn_class (fI := 290) ok (by rfl) (by rfl) (by rfl) (by rfl) fun β => ?_
  refine Fn_def (C := C.at β) (ok.at β) (D_linit (C := C.at β) (ok.at β)) rfl (by rfl) ?_
  have ok' := ok.at β
  have ho := fun (more : List (Str × D)) => obj_of (C := C) (more := more) (l := 2) (c := c) (w := w) (.inr (.inr rfl)) hz
  have hL : ∀ φ : Store, (∀ b o, C.H.get? b = some o → φ b = some o) → Rep φ β (.ref 284) (.tuple [.int 2, .int 3]) := fun φ hφ =>
    .tuple (vs := [.int 2 568, .int 3 569]) (n := 0) (hφ _ _ (ok.kin 284 _ (by rfl))) (.cons (.int _ _) (.cons (.int _ _) .nil))
  obtain ⟨tt, htt⟩ : ∃ t, findIn (C.K) (.ref 307) ("TREE" : Str) = some (some (.int 4 t)) := ⟨_, by rfl⟩
  refine Ex_cons (Ex1_expr (by rfl) ?_)
  refine Ev_clsfn (n := n + 1) (Cl := 183) (f := 110) ok' (mg_of ok' (by rfl)) (by rfl) (by rfl) ⟨by rfl, ⟨.type "type", by rfl, by rfl⟩, by rfl⟩ ?_ (by show n + 1 ≤ n + 4; lia) (by rfl) (by rfl) (by decide)
  refine EvD_cons (Ev_name (by rfl) (by rfl) ?_) (by rfl)
  refine EvD_cons (Ev_name (by rfl) (by rfl) ?_) (by rfl)
  refine EvD_cons (Ev_sub (Ev_attr ok' (d := .self 307) (d' := .tuple [.int 2, .int 3]) (by rfl) (by rfl) (.scls rfl (a := .ref 284) ⟨by rfl, by rfl, by rfl, by rfl, by rfl, by rfl⟩ (by rfl) hL) (Ev_int ⟨by rfl, item_t (by decide) (by decide) (by rfl) ?_⟩)) (by rfl)) (by rfl)
  refine EvD_cons (Ev_name (by rfl) (by rfl) ?_) (by rfl)
  refine EvD_cons (Ev_name (by rfl) (by rfl) ?_) (by rfl)
  refine EvD_nil ?_
  refine minit_ok ok' ⟨⟨by rfl, by rfl, by rfl, by rfl⟩, ⟨by rfl, by rfl, by rfl, by rfl⟩, ⟨by rfl, by rfl, by rfl, by rfl⟩, ⟨by rfl, by rfl, by rfl, by rfl⟩, ⟨by rfl, by rfl, by rfl, by rfl⟩⟩ (by decide) (by lia) h3 ?_
  refine And.intro rfl ?_
  refine Ex_cons (Ex1_setattr ok' (Cl := 307) (by rfl) (by rfl) ⟨by rfl, by rfl, by rfl, by rfl⟩ (by rfl) ?_)
  refine Ev_comp (fun rest acc b => b = some (.flds (stdFs oc 2 w c)) ∧ (∀ d ∈ rest, ∃ i : Int, d = .int i ∧ 1 ≤ i) ∧ acc.length + rest.length ≤ 2) ?_ ⟨?_, by rfl, by rfl, by rfl, by rfl⟩ (by rfl)
  · refine Ev_attr ok' (d := .self 307) (d' := .tuple [.int 2, .int 3]) (by rfl) (by rfl) (.scls rfl (a := .ref 284) ⟨by rfl, by rfl, by rfl, by rfl, by rfl, by rfl⟩ (by rfl) hL) ?_
    refine ⟨_, ItOk_tuple, ⟨rfl, ?_, by decide⟩, fun acc b ⟨e, _, _⟩ => ?_⟩
    · intro d hd
      simp only [List.mem_cons, List.not_mem_nil, or_false] at hd
      rcases hd with rfl | rfl
      · exact ⟨2, rfl, by decide⟩
      · exact ⟨3, rfl, by decide⟩
    subst e
    refine ⟨_, rfl, by rfl, by simp [stdFs], ?_⟩
    refine Ex_cons (Ex1_setattr ok' (Cl := 307) (by rfl) (by rfl) ⟨by rfl, by rfl, by rfl, by rfl⟩ (by rfl) ?_)
    refine Ev_fun (f := 274) (n := n + 4) ok' (by rfl) (by rfl) (by rfl) (by rfl) (by show n + 4 ≤ n + 4; lia) (by rfl) ?_
    refine EvD_cons (Ev_attr ok' (d := .self 307) (by rfl) (by rfl) (.sown rfl ⟨by rfl, by rfl, none, by rfl, by rfl⟩ (by rfl) (by rfl)) ?_) (by rfl)
    refine EvD_cons (Ev_attr ok' (d := .self 307) (d' := .int 4) (by rfl) (by rfl) (.scls rfl (a := .int 4 tt) ⟨by rfl, by rfl, htt, by rfl, by rfl, by rfl⟩ (by rfl) (fun φ _ => .int _ _)) ?_) (by rfl)
    refine EvD_cons (Ev_name (by rfl) (by rfl) ?_) (by rfl)
    refine EvD_cons (Ev_name (by rfl) (by rfl) ?_) (by rfl)
    refine EvD_nil ?_
    refine tree_ok ok' (by decide) h2 h3 hz fun fs _ => ?_
    refine ⟨_, rfl, by rfl, by simp [stdFs], ?_⟩
    exact Ex_nil ⟨rfl, _, rfl, h _ (ho [("rows", .any), ("tree", .any)] (by rfl) (by rfl) (by rfl) (by rfl))⟩
  · intro x rest acc b ⟨hb, hi, hlen⟩
    obtain ⟨i, rfl, hi1⟩ := hi x List.mem_cons_self
    subst hb
    refine ⟨_, rfl, TsL_nil ?_⟩
    refine And.intro (fun _ => ?_) (fun t => nomatch t)
    refine Ev_fun (f := 92) (n := n + 2) ok' (by rfl) (by rfl) (by rfl) (by rfl) (by show n + 2 ≤ n + 4; lia) (by rfl) ?_
    refine EvD_cons (Ev_attr ok' (d := .self 307) (by rfl) (by rfl) (.sown rfl ⟨by rfl, by rfl, none, by rfl, by rfl⟩ (by rfl) (by rfl)) ?_) (by rfl)
    refine EvD_cons (Ev_name (by rfl) (by rfl) ?_) (by rfl)
    refine EvD_nil ?_
    refine prow_ok ok' hi1 hz fun fs => ?_
    simp only [List.length_cons] at hlen
    refine ⟨by lia, rfl, fun d hd => hi d (List.mem_cons_of_mem _ hd), by simp; lia⟩
end
section
set_option maxRecDepth 100000
set_option linter.unusedVariables false
theorem D_box {C : Cx} (ok : C.Ok) : DefAt C 316 ["script"] (bodyAt C.K 316) (scAt C.K 316) := by
  refine DefAt.of ok (by rfl) fun fd e vs hl s X => bindsN X fun S => ?_
  cases e
  obtain ⟨a, rfl⟩ := len1 hl
  rfl
theorem D_take {C : Cx} (ok : C.Ok) : DefAt C 323 ["box", "many"] (bodyAt C.K 323) (scAt C.K 323) := by
  refine DefAt.of ok (by rfl) fun fd e vs hl s X => bindsN X fun S => ?_
  cases e
  obtain ⟨a, b, rfl⟩ := len2 hl
  rfl
theorem box_ok {C : Cx} (ok : C.Ok) {n : Nat} {ns : List Int} {bs : BS} {Q : BS → R → Prop}
    (hz : ns.length ≤ 1000) (h : ∀ d s : Int, Q bs (.own [.int d, .int s])) : Fn C (n + 1) (.ref 316) [.list (ns.map D.int)] bs Q := by
  refine Fn_def ok (D_box ok) rfl (by rfl) ?_
  refine Ex_cons (Ex1_assign_tup (xs := ["digits", "state"]) (by rfl) (by first | (left; rfl) | (right; rfl)) (by rfl) (by decide) ?_)
  repeat (walk_at "mine")
  refine ⟨_, rfl, by decide, ?_⟩
  refine Ex_cons (Ex1_forS (α := Int × Int) (fun xs _ => ∃ ms : List Int, xs = ms.map D.int) (fun a => [("digits", .val (.int a.1)), ("state", .val (.int a.2))]) (fun _ => bs) ?_ ?_ ?_ (by rfl) (by rfl))
  · repeat (walk_at "mine")
    refine EvP_none (EvP_some (Ev_int ⟨by simp; lia, ?_⟩))
    refine ⟨_, (0, 1), ItOk_list, ⟨cut none (some 30) ns, ?_⟩, SubV.all (by rfl), rfl⟩
    simp [cut, List.map_take]
  · intro x rest ⟨d, s⟩ ⟨ms, e⟩ I fin
    cases ms with
    | nil => cases e
    | cons m ms =>
      cases e
      refine ⟨_, rfl, ?_⟩
      repeat (walk_at "mine")
      refine pow_i (by decide) (by decide) ?_
      refine ge_i ?_
      refine And.intro (fun _ => ?_) (fun _ => ?_)
      · refine Ex_cons (Ex1_assign ?_ (by rfl) (by rfl))
        repeat (walk_at "mine")
        refine pow_i (by decide) (by decide) ?_
        refine sub_i ?_
        repeat (walk_at "mine")
        exact fin _ _ ⟨(d + m - (10 : Int) ^ ((18 : Int).toNat), s), ⟨ms, rfl⟩, SubV.all (by rfl), rfl⟩
      · refine Ex_cons (Ex1_assign ?_ (by rfl) (by rfl))
        repeat (walk_at "mine")
        refine mul_i (by decide) ?_
        repeat (walk_at "mine")
        refine mod_i (by decide) ?_
        repeat (walk_at "mine")
        exact fin _ _ ⟨(d, 1 + (s * 1009 + m).fmod 2147483629), ⟨ms, rfl⟩, SubV.all (by rfl), rfl⟩
  · intro ⟨d, s⟩ _
    refine Ex_nil ?_
    refine Ex_cons (Ex1_ret (Ev_list ?_))
    repeat (walk_at "mine")
    exact ⟨by simp, h d s⟩
theorem fmod_in {a m : Int} (hm : 1 ≤ m) : 0 ≤ a.fmod m ∧ a.fmod m < m := ⟨Int.fmod_nonneg_of_pos _ (by assumption), Int.fmod_lt_of_pos _ (by assumption)⟩
theorem take_ok {C : Cx} (ok : C.Ok) {n : Nat} {a b m : Int} {Q : BS → R → Prop}
    (hm : 1 ≤ m) (hm2 : m < 1000000) (h : ∀ a' b' t : Int, 0 ≤ t → t < m → Q (some (.two a' b')) (.val (.int t))) : Fn C (n + 1) (.ref 323) [.box, .int m] (some (.two a b)) Q := by
  refine Fn_def ok (D_take ok) rfl (by rfl) ?_
  refine Ex_cons (Ex1_if (Ts_cmp (Ev_box (by rfl) (by rfl) rfl (.inl rfl) (Ev_int (gt_i ?_))) (by rfl)))
  refine And.intro (fun _ => ?_) (fun _ => ?_)
  · refine Ex_cons (Ex1_assign (Ev_bin (Ev_box (by rfl) (by rfl) rfl (.inl rfl) (Ev_name (by rfl) (by rfl) (mod_i (by lia) ?_)))) (by rfl) (by rfl))
    refine Ex_cons (Ex1_box (by rfl) (by rfl) (.inl rfl) (by rfl) (Ev_bin (Ev_box (by rfl) (by rfl) rfl (.inl rfl) (Ev_name (by rfl) (by rfl) (div_i (by lia) (by omega) ⟨_, _, rfl, ?_⟩)))))
    repeat (walk_at "mine")
    obtain ⟨h1, h2⟩ := fmod_in (a := a) hm
    exact h _ _ _ h1 h2
  · refine Ex_nil ?_
    refine Ex_cons (Ex1_box (by rfl) (by rfl) (.inr rfl) (by rfl) (Ev_bin (Ev_bin (Ev_box (by rfl) (by rfl) rfl (.inr rfl) (Ev_int (mul_i (by decide) (Ev_int (mod_i (by decide) ⟨_, _, rfl, ?_⟩))))))))
    refine Ex_cons (Ex1_ret (Ev_bin (Ev_bin (Ev_box (by rfl) (by rfl) rfl (.inr rfl) (Ev_int (div_i (by decide) (by decide) (Ev_name (by rfl) (by rfl) (mod_i (by lia) ?_))))))))
    obtain ⟨h1, h2⟩ := fmod_in (a := Int.fdiv (Int.fmod (b * 48271) 2147483647) 1024) hm
    exact h _ _ _ h1 h2
end
section
set_option maxRecDepth 100000
set_option linter.unusedVariables false
theorem D_piece {C : Cx} (ok : C.Ok) : DefAt C 328 ["box", "size"] (bodyAt C.K 328) (scAt C.K 328) := by
  refine DefAt.of ok (by rfl) fun fd e vs hl s X => bindsN X fun S => ?_
  cases e
  obtain ⟨a, b, rfl⟩ := len2 hl
  rfl
theorem piece_ok {C : Cx} (ok : C.Ok) {n : Nat} {a b m : Int} {Q : BS → R → Prop}
    (hm : 0 ≤ m) (hm2 : m < 1000) (h : ∀ (a' b' : Int) (ls : List Int), ls.length = m.toNat → (∀ c ∈ ls, 97 ≤ c ∧ c ≤ 99) → Q (some (.two a' b')) (.own (ls.map D.int))) : Fn C (n + 2) (.ref 328) [.box, .int m] (some (.two a b)) Q := by
  refine Fn_def ok (D_piece ok) rfl (by rfl) ?_
  refine Ex_cons (Ex1_assign ?_ (by rfl) (by rfl))
  refine Ev_bin (Ev_int ?_)
  refine Ev_fun (f := 323) (n := n + 1) ok (by rfl) (by rfl) (by rfl) (by rfl) (Nat.le_refl _) (by rfl) ?_
  repeat (walk_at "mine")
  refine take_ok ok (by decide) (by decide) fun a1 b1 t h0 h1 => ?_
  refine add_i ?_
  refine Ex_cons (Ex1_ret ?_)
  refine Ev_comp (fun rest acc bb => ∃ (ls : List Int) (a' b' : Int), acc = ls.map D.int ∧ (∀ c ∈ ls, 97 ≤ c ∧ c ≤ 99) ∧ ls.length + rest.length = m.toNat ∧ bb = some (.two a' b')) ?_ ⟨?_, by rfl, by rfl, by rfl, by rfl⟩ (by rfl)
  · repeat (walk_at "mine")
    refine range_1 ⟨_, ItOk_up (by decide) (by lia), ⟨[], a1, b1, rfl, (fun _ h => nomatch h), by simp [upto_length], rfl⟩, fun acc bb ⟨ls, a', b', e1, e2, e3, e4⟩ => ?_⟩
    subst e1 e4
    exact h a' b' ls (by simpa using e3) e2
  · intro x rest acc bb ⟨ls, a', b', e1, e2, e3, e4⟩
    subst e1 e4
    refine ⟨_, rfl, TsL_nil ?_⟩
    refine And.intro (fun _ => ?_) (fun t => nomatch t)
    refine Ev_bin (Ev_int ?_)
    refine Ev_fun (f := 323) (n := n + 1) ok (by rfl) (by rfl) (by rfl) (by rfl) (Nat.le_refl _) (by rfl) ?_
    repeat (walk_at "mine")
    refine take_ok ok (by lia) (by lia) fun a2 b2 u g0 g1 => ?_
    refine add_i ?_
    simp only [List.length_cons] at e3
    refine ⟨by simp; lia, ls ++ [97 + u], a2, b2, by simp, fun c hc => ?_, by simp; lia, rfl⟩
    rcases List.mem_append.mp hc with hc | hc
    · exact e2 c hc
    · rw [List.mem_singleton.mp hc]; lia
end
section
set_option maxRecDepth 100000
set_option maxHeartbeats 8000000
set_option linter.unusedVariables false
theorem cut_both {α : Type} {l : List α} {b s : Int} (hb : 0 ≤ b) (hs : 0 ≤ s) (h : b + s ≤ l.length) : cut (some b) (some (b + s)) l = (l.drop b.toNat).take s.toNat := by
  have e1 : clipAt l.length b = b.toNat := by unfold clipAt; lia
  have e2 : clipAt l.length (b + s) = b.toNat + s.toNat := by unfold clipAt; (clear e1; lia)
  unfold cut
  simp only [Option.elim]
  rw [e1, e2, Nat.add_sub_cancel_left]
theorem fdiv2 {a : Int} (h : 0 ≤ a) : 0 ≤ a.fdiv 2 ∧ 2 * a.fdiv 2 ≤ a := by
  rw [Int.fdiv_eq_ediv_of_nonneg _ (by decide)]; lia
theorem D_text {C : Cx} (ok : C.Ok) : DefAt C 335 ["box", "most"] (bodyAt C.K 335) (scAt C.K 335) := by
  refine DefAt.of ok (by rfl) fun fd e vs hl s X => bindsN X fun S => ?_
  cases e
  obtain ⟨a, b, rfl⟩ := len2 hl
  rfl
theorem text_ok {C : Cx} (ok : C.Ok) {n : Nat} {a b m : Int} {Q : BS → R → Prop}
    (hm : 10 ≤ m) (hm2 : m ≤ 16) (h : ∀ (a' b' : Int) (ls : List Int), 2 ≤ ls.length → (ls.length : Int) ≤ m → Lets ls → Q (some (.two a' b')) (.val (.bytes ls))) : Fn C (n + 3) (.ref 335) [.box, .int m] (some (.two a b)) Q := by
  refine Fn_def ok (D_text ok) rfl (by rfl) ?_
  refine Ex_cons (Ex1_assign_tup (xs := ["way", "size"]) (by rfl) (by first | (left; rfl) | (right; rfl)) (by rfl) (by decide) ?_)
  refine EvL_cons ?_ (by rfl)
  refine Ev_fun (f := 323) (n := n + 1) ok (by rfl) (by rfl) (by rfl) (by rfl) (Nat.le_succ _) (by rfl) ?_
  repeat (walk_at "mine")
  refine take_ok ok (by decide) (by decide) fun a1 b1 way w0 w1 => ?_
  refine EvL_cons (Ev_bin (Ev_int ?_)) (by rfl)
  refine Ev_fun (f := 323) (n := n + 1) ok (by rfl) (by rfl) (by rfl) (by rfl) (Nat.le_succ _) (by rfl) ?_
  repeat (walk_at "mine")
  refine take_ok ok (by lia) (by lia) fun a2 b2 sz z0 z1 => ?_
  refine add_i ?_
  refine EvL_nil ⟨_, rfl, by simp, ?_⟩
  have k1 : 2 ≤ 2 + sz := by lia
  have k2 : 2 + sz ≤ m := by lia
  generalize 2 + sz = S at k1 k2
  refine Ex_cons (Ex1_assign_tup (xs := ["last", "text"]) (by rfl) (by first | (left; rfl) | (right; rfl)) (by rfl) (by decide) ?_)
  refine EvL_cons (Ev_list (EvD_cons (Ev_int ?_) (by rfl))) (by rfl)
  refine EvD_nil ⟨by decide, ?_⟩
  refine EvL_cons (Ev_list (EvD_cons (Ev_int ?_) (by rfl))) (by rfl)
  refine EvD_nil ⟨by decide, ?_⟩
  refine EvL_nil ⟨_, rfl, by simp, ?_⟩
  refine Ex_freeze "last" (by rfl) ?_
  refine Ex_freeze "text" (by rfl) ?_
  -- way 0
  refine Ex_cut (α := (List Int × List Int) × Int × Int) (fun s => Lets s.1.1 ∧ Lets s.1.2 ∧ 1 ≤ s.1.1.length ∧ s.1.1.length ≤ 200 ∧ 1 ≤ s.1.2.length ∧ s.1.2.length ≤ 60) (fun s => [("text", .val (.list (s.1.1.map D.int))), ("last", .val (.list (s.1.2.map D.int))), ("size", .val (.int S)), ("way", .val (.int way)), ("most", .val (.int m)), ("box", .val .box)]) (fun s => some (.two s.2.1 s.2.2)) ?_ fun ⟨⟨lt, la⟩, a3, b3⟩ ⟨p1, p2, p3, p4, p5, p6⟩ => ?_
  · intro I fin
    repeat (walk_at "mine")
    refine And.intro (fun t => ?_) (fun t => ?_)
    · refine Ex_cons (Ex1_assign_tup (xs := ["cut", "last"]) (by rfl) (by first | (left; rfl) | (right; rfl)) (by rfl) (by decide) ?_)
      refine EvL_cons ?_ (by rfl)
      refine Ev_fun (f := 323) (n := n + 1) ok (by rfl) (by rfl) (by rfl) (by rfl) (Nat.le_succ _) (by rfl) ?_
      repeat (walk_at "mine")
      refine div_i (by decide) (by decide) ?_
      repeat (walk_at "mine")
      have d0 := fdiv2 (a := S) (by lia)
      generalize S.fdiv 2 = S2 at d0
      refine take_ok ok (by lia) (by lia) fun a3 b3 cu u0 u1 => ?_
      refine EvL_cons ?_ (by rfl)
      refine Ev_fun (f := 328) (n := n + 2) ok (by rfl) (by rfl) (by rfl) (by rfl) (Nat.le_refl _) (by rfl) ?_
      refine EvD_cons (Ev_name (by rfl) (by rfl) ?_) (by rfl)
      refine EvD_cons (Ev_bin (Ev_int ?_)) (by rfl)
      refine Ev_fun (f := 323) (n := n + 1) ok (by rfl) (by rfl) (by rfl) (by rfl) (Nat.le_succ _) (by rfl) ?_
      repeat (walk_at "mine")
      refine take_ok ok (by decide) (by decide) fun a4 b4 v v0 v1 => ?_
      refine add_i ?_
      refine EvD_nil ?_
      refine piece_ok ok (by lia) (by lia) fun a5 b5 la l1 l2 => ?_
      refine EvL_nil ⟨_, rfl, by simp, ?_⟩
      refine Ex_freeze "last" (by rfl) ?_
      refine Ex_cons (Ex1_assign (Ev_bin (Ev_slice (Ev_bin ?_))) (by rfl) (by rfl))
      refine Ev_fun (f := 328) (n := n + 2) ok (by rfl) (by rfl) (by rfl) (by rfl) (Nat.le_refl _) (by rfl) ?_
      refine EvD_cons (Ev_name (by rfl) (by rfl) ?_) (by rfl)
      refine EvD_cons (Ev_bin (Ev_int ?_)) (by rfl)
      refine Ev_fun (f := 323) (n := n + 1) ok (by rfl) (by rfl) (by rfl) (by rfl) (Nat.le_succ _) (by rfl) ?_
      repeat (walk_at "mine")
      refine take_ok ok (by decide) (by decide) fun a6 b6 y y0 y1 => ?_
      refine add_i ?_
      refine EvD_nil ?_
      refine piece_ok ok (by lia) (by lia) fun a7 b7 wd l3 l4 => ?_
      refine Ev_name (by rfl) (by rfl) ?_
      refine mul_l (d1 := wd.map D.int) (by rfl) (by lia) ?_ ?_
      · rw [List.length_map, l3]
        have : (1 + y).toNat * S.toNat ≤ 6 * 60 := Nat.mul_le_mul (by lia) (by lia)
        lia
      refine EvP_none (EvP_some (Ev_bin (Ev_name (by rfl) (by rfl) ?_)))
      refine Ev_name (by rfl) (by rfl) (sub_i ?_)
      refine And.intro (by rw [rep_length, List.length_map, l3]; have : (1 + y).toNat * S.toNat ≤ 6 * 60 := Nat.mul_le_mul (by lia) (by lia); lia) ?_
      rw [rep_map, cut_map, cut_take (by (clear k1; lia))]
      have hx : (((rep wd S.toNat).take (S - cu).toNat).length : Int) = S - cu := by
        rw [List.length_take, rep_length, l3]
        have : 1 * S.toNat ≤ (1 + y).toNat * S.toNat := Nat.mul_le_mul (by (clear l3; lia)) (Nat.le_refl _)
        lia
      have hxl := (Lets.rep l4 S.toNat).take (S - cu).toNat
      generalize (rep wd S.toNat).take (S - cu).toNat = xs at hx hxl
      clear l3 l4 y0 y1
      refine Ev_slice (Ev_bin (Ev_name (by rfl) (by rfl) ?_))
      refine Ev_name (by rfl) (by rfl) ?_
      refine mul_l (d1 := la.map D.int) (by rfl) (by lia) ?_ ?_
      · rw [List.length_map, l1]
        have : (1 + v).toNat * S.toNat ≤ 6 * 60 := Nat.mul_le_mul (by lia) (by lia)
        lia
      refine EvP_none (EvP_some (Ev_name (by rfl) (by rfl) ?_))
      refine And.intro (by rw [rep_length, List.length_map, l1]; have : (1 + v).toNat * S.toNat ≤ 6 * 60 := Nat.mul_le_mul (by lia) (by lia); lia) ?_
      rw [rep_map, cut_map, cut_take u0]
      have hyl := (Lets.rep l2 S.toNat).take cu.toNat
      have hy : ((rep la S.toNat).take cu.toNat).length ≤ 60 := by
        rw [List.length_take]; (clear u1; lia)
      generalize (rep la S.toNat).take cu.toNat = ys at hy hyl
      refine add_l (d1 := xs.map D.int) (d2 := ys.map D.int) (by rfl) (by rfl) (by rw [List.length_map, List.length_map]; lia) ?_
      refine Ex_nil (fin _ _ ⟨((xs ++ ys, la), a7, b7), ⟨hxl.app hyl, l2, by show 1 ≤ (xs ++ ys).length; rw [List.length_append]; (clear u0; lia), by show (xs ++ ys).length ≤ 200; rw [List.length_append]; lia, by show 1 ≤ la.length; lia, by show la.length ≤ 60; lia⟩, SubV.cons (by rw [List.map_append]; rfl) (SubV.all (by rfl)), rfl⟩)
    · exact Ex_nil (fin _ _ ⟨(([97], [98]), a2, b2), ⟨fun c hc => by rw [List.mem_singleton.mp hc]; decide, fun c hc => by rw [List.mem_singleton.mp hc]; decide, Nat.le_refl 1, Nat.le_add_left 1 199, Nat.le_refl 1, Nat.le_add_left 1 59⟩, SubV.all (by rfl), rfl⟩)
  dsimp only at p1 p2 p3 p4 p5 p6 ⊢
  -- way 1
  refine Ex_cut (α := (List Int × List Int) × Int × Int) (fun s => Lets s.1.1 ∧ Lets s.1.2 ∧ 1 ≤ s.1.1.length ∧ s.1.1.length ≤ 200 ∧ 1 ≤ s.1.2.length ∧ s.1.2.length ≤ 60) (fun s => [("text", .val (.list (s.1.1.map D.int))), ("last", .val (.list (s.1.2.map D.int))), ("size", .val (.int S)), ("way", .val (.int way)), ("most", .val (.int m)), ("box", .val .box)]) (fun s => some (.two s.2.1 s.2.2)) ?_ fun ⟨⟨lt, la⟩, a3, b3⟩ ⟨p1, p2, p3, p4, p5, p6⟩ => ?_
  · intro I fin
    repeat (walk_at "mine")
    refine And.intro (fun t => ?_) (fun t => ?_)
    · refine Ex_cons (Ex1_assign ?_ (by rfl) (by rfl))
      refine Ev_fun (f := 328) (n := n + 2) ok (by rfl) (by rfl) (by rfl) (by rfl) (Nat.le_refl _) (by rfl) ?_
      repeat (walk_at "mine")
      refine piece_ok ok (by lia) (by lia) fun a5 b5 lx l1 l2 => ?_
      refine Ex_nil (fin _ _ ⟨((lx, la), a5, b5), ⟨l2, p2, by show 1 ≤ lx.length; lia, by show lx.length ≤ 200; lia, p5, p6⟩, SubV.all (by rfl), rfl⟩)
    · exact Ex_nil (fin _ _ ⟨((lt, la), a3, b3), ⟨p1, p2, p3, p4, p5, p6⟩, SubV.all (by rfl), rfl⟩)
  dsimp only at p1 p2 p3 p4 p5 p6 ⊢
  clear z0 z1 w0 w1
  refine Ex_cons (Ex1_whileS (α := (List Int × List Int) × Int × Int) (fun s => Lets s.1.1 ∧ Lets s.1.2 ∧ 1 ≤ s.1.1.length ∧ s.1.1.length ≤ 200 ∧ 1 ≤ s.1.2.length ∧ s.1.2.length ≤ 60) (fun s => [("text", .val (.list (s.1.1.map D.int))), ("last", .val (.list (s.1.2.map D.int))), ("size", .val (.int S)), ("box", .val .box)]) (fun s => some (.two s.2.1 s.2.2)) (fun s => 1000 - s.1.1.length)
    ⟨((lt, la), a3, b3), ⟨p1, p2, p3, p4, p5, p6⟩, SubV.all (by rfl), rfl⟩ fun ⟨⟨xt, xl⟩, a4, b4⟩ ⟨q1, q2, q3, q4, q5, q6⟩ I fin => ?_)
  dsimp only at q1 q2 q3 q4 q5 q6 ⊢
  clear p1 p2 p3 p4 p5 p6
  refine Ts_cmp ?_ (by rfl)
  refine Ev_len ok (by rfl) (by rfl) (by rfl) (Ev_name (by rfl) (by rfl) (len_l (ds := xt.map D.int) (by rfl) (by rw [List.length_map]; lia) ?_))
  refine Ev_name (by rfl) (by rfl) (lt_i ?_)
  rw [List.length_map]
  refine And.intro (fun t => ?_) (fun t => ?_)
  · have ht := of_decide_eq_true t
    refine Ex_cons (Ex1_assign_tup (xs := ["last", "text"]) (by rfl) (by first | (left; rfl) | (right; rfl)) (by rfl) (by decide) ?_)
    refine EvL_cons (Ev_name (by rfl) (by rfl) ?_) (by rfl)
    refine EvL_cons (Ev_bin (Ev_bin (Ev_name (by rfl) (by rfl) ?_))) (by rfl)
    refine Ev_bin (Ev_int (Ev_bin ?_))
    refine Ev_fun (f := 323) (n := n + 1) ok (by rfl) (by rfl) (by rfl) (by rfl) (Nat.le_succ _) (by rfl) ?_
    repeat (walk_at "mine")
    refine take_ok ok (by decide) (by decide) fun a5 b5 u u0 u1 => ?_
    refine Ev_int (div_i (by decide) (by decide) ?_)
    have d0 := fdiv2 u0
    refine add_i ?_
    have r0 : 1 ≤ 1 + u.fdiv 2 ∧ 1 + u.fdiv 2 ≤ 2 := by (clear d0; lia)
    generalize 1 + u.fdiv 2 = r at r0
    clear d0 u0 u1
    have r1 : xt.length ≤ (rep xt r.toNat).length ∧ (rep xt r.toNat).length ≤ 32 := by
      rw [rep_length]
      have : xt.length * 1 ≤ xt.length * r.toNat := Nat.mul_le_mul (Nat.le_refl _) (by lia)
      have : xt.length * r.toNat ≤ 16 * 2 := Nat.mul_le_mul (by (clear t; lia)) (by lia)
      lia
    refine mul_l (d1 := xt.map D.int) (by rfl) (by lia) (by rw [← rep_length, rep_map, List.length_map]; lia) ?_
    rw [rep_map]
    have r2 : Lets (rep xt r.toNat) := q1.rep _
    generalize rep xt r.toNat = xr at r1 r2
    refine Ev_name (by rfl) (by rfl) (add_l (d1 := xr.map D.int) (d2 := xl.map D.int) (by rfl) (by rfl) (by rw [List.length_map, List.length_map]; lia) ?_)
    refine EvL_nil ⟨_, rfl, by simp, ?_⟩
    refine Ex_freeze "text" (by rfl) ?_
    refine Ex_nil (fin _ _ ⟨((xr ++ xl, xt), a5, b5), by show 1000 - (xr ++ xl).length < 1000 - xt.length; rw [List.length_append]; (clear q3 q6 r0; omega), ⟨r2.app q2, q1, by show 1 ≤ (xr ++ xl).length; rw [List.length_append]; lia, by show (xr ++ xl).length ≤ 200; rw [List.length_append]; lia, q3, by show xt.length ≤ 60; (clear hm2 t; lia)⟩, SubV.cons (by rw [List.map_append]; rfl) (SubV.all (by rfl)), rfl⟩)
  have ht := of_decide_eq_false t
  clear fin q2 q3 q5 q6 t
  refine Ex_nil ?_
  refine Ex_cons (Ex1_assign ?_ (by rfl) (by rfl))
  refine Ev_fun (f := 323) (n := n + 1) ok (by rfl) (by rfl) (by rfl) (by rfl) (Nat.le_succ _) (by rfl) ?_
  repeat (walk_at "mine")
  refine len_l (ds := xt.map D.int) (by rfl) (by rw [List.length_map]; lia) ?_
  rw [List.length_map]
  repeat (walk_at "mine")
  refine take_ok ok (by lia) (by omega) fun a5 b5 be e0 e1 => ?_
  refine Ex_cons (Ex1_assign_mu ?_ (by rfl) (by rfl))
  refine Ev_slice (Ev_name (by rfl) (by rfl) ?_)
  refine EvP_some (Ev_name (by rfl) (by rfl) ?_)
  refine EvP_some (Ev_bin (Ev_name (by rfl) (by rfl) ?_))
  refine Ev_name (by rfl) (by rfl) (add_i ?_)
  refine And.intro (by simp; lia) ?_
  rw [cut_map, cut_both e0 (by lia) (by lia)]
  have hlen : (((xt.drop be.toNat).take S.toNat).length : Int) = S := by rw [List.length_take, List.length_drop]; (clear ht; lia)
  have hlet : Lets ((xt.drop be.toNat).take S.toNat) := (q1.drop _).take _
  generalize (xt.drop be.toNat).take S.toNat = xs at hlen hlet
  have fin : ∀ (xs : List Int) (a5 b5 : Int), (xs.length : Int) = S → Lets xs → Q (some (.two a5 b5)) (.val (.bytes xs)) := fun xs a5 b5 h1 h2 => h a5 b5 xs (by lia) (by lia) h2
  clear h e0 e1 ht q1 q4
  refine Ex_cons (Ex1_if (Ts_cmp ?_ (by rfl)))
  refine Ev_fun (f := 323) (n := n + 1) ok (by rfl) (by rfl) (by rfl) (by rfl) (Nat.le_succ _) (by rfl) ?_
  repeat (walk_at "mine")
  refine take_ok ok (by decide) (by decide) fun a5 b5 u u0 u1 => ?_
  refine Ev_int (eq_i ?_)
  refine And.intro (fun t => ?_) (fun t => ?_)
  · clear t u0 u1
    refine Ex_cons (Ex1_assign_tup (xs := ["spot", "letter"]) (by rfl) (by first | (left; rfl) | (right; rfl)) (by rfl) (by decide) ?_)
    refine EvL_cons ?_ (by rfl)
    refine Ev_fun (f := 323) (n := n + 1) ok (by rfl) (by rfl) (by rfl) (by rfl) (Nat.le_succ _) (by rfl) ?_
    repeat (walk_at "mine")
    refine take_ok ok (by (clear hlen; lia)) (by (clear hm hlen; omega)) fun a6 b6 spot s0 s1 => ?_
    refine EvL_cons (Ev_bin (Ev_int ?_)) (by rfl)
    refine Ev_fun (f := 323) (n := n + 1) ok (by rfl) (by rfl) (by rfl) (by rfl) (Nat.le_succ _) (by rfl) ?_
    repeat (walk_at "mine")
    refine take_ok ok (by decide) (by decide) fun a7 b7 v v0 v1 => ?_
    refine add_i ?_
    refine EvL_nil ⟨_, rfl, by simp, ?_⟩
    refine Ex_cons (Ex1_setitem (x := "text") (ds := xs.map D.int) (by rfl) (by rfl) (by rfl) (Ev_name (by rfl) (by rfl) ?_))
    refine Ev_name (by rfl) (by rfl) ?_
    refine And.intro s0 ⟨by rw [List.length_map]; lia, by rw [List.length_map]; (clear hm; omega), ?_⟩
    refine Ex_nil (Ex_cons (Ex1_ret ?_))
    refine Ev_bytes ok (by rfl) (by rfl) (by rfl) (Ev_name_mu (by rfl) (by rfl) ?_)
    have e : (xs.map D.int).set spot.toNat (D.int (97 + v)) = (xs.set spot.toNat (97 + v)).map D.int := by rw [List.map_set]
    have hl' : Lets (xs.set spot.toNat (97 + v)) := hlet.set (by (clear hlen e; lia))
    refine bytes_l (ns := xs.set spot.toNat (97 + v)) (by rw [← e]; rfl) (fun c hc => by have := hl' c hc; lia) (by rw [List.length_set]; lia) ?_
    exact fin _ _ _ (by rw [List.length_set]; exact hlen) hl'
  · refine Ex_nil (Ex_cons (Ex1_ret ?_))
    refine Ev_bytes ok (by rfl) (by rfl) (by rfl) (Ev_name_mu (by rfl) (by rfl) ?_)
    refine bytes_l (ns := xs) (by rfl) (fun c hc => by have := hlet c hc; lia) (by lia) ?_
    exact fin _ _ _ hlen hlet
end
section
set_option maxRecDepth 100000
set_option maxHeartbeats 8000000
set_option linter.unusedVariables false
theorem D_runs {C : Cx} (ok : C.Ok) : DefAt C 340 ["finder", "size"] (bodyAt C.K 340) (scAt C.K 340) := by
  refine DefAt.of ok (by rfl) fun fd e vs hl s X => bindsN X fun S => ?_
  cases e
  obtain ⟨a, b, rfl⟩ := len2 hl
  rfl
theorem filter_gI (p : Int → Bool) (l : List Int) : l.filterMap (fun i => if p i = true then some (D.int i) else none) = (l.filter p).map D.int := by
  induction l with
  | nil => rfl
  | cons x l ih =>
    rw [List.filterMap_cons, List.filter_cons, ih]
    cases p x <;> rfl
theorem okN_ints (l : List Int) (n : Nat) : (D.list (l.map D.int)).okN (n + 1) = true := by
  simp only [D.okN, List.all_eq_true, List.mem_map]
  rintro d ⟨i, _, rfl⟩
  cases n <;> rfl
theorem filter_ne {p : Int → Bool} {L : List Int} {t : Bool} (ht : t = true ↔ D.list ((L.filter p).map D.int) ≠ D.list []) : t = L.any p := by
  rw [Bool.eq_iff_iff, ht, List.any_eq_true]
  constructor
  · intro q
    cases hL : L.filter p with
    | nil => exact absurd (by rw [hL]; rfl) q
    | cons a l => exact ⟨a, List.mem_filter.mp (by rw [hL]; exact .head _)⟩
  · rintro ⟨a, ha, hp⟩ q
    rw [D.list.injEq, List.map_eq_nil_iff] at q
    have := List.mem_filter.mpr ⟨ha, hp⟩
    rw [q] at this; cases this
noncomputable def endN (oc : List Int) (w p b : Nat) : Nat := b + p + repN oc w (b + p) p oc.length
noncomputable def aheadB (oc : List Int) (w p b : Nat) : Bool := decide (0 < b) && decide (repN oc w (b + p - 1) p 1 = 1)
noncomputable def lessAt (oc : List Int) (w p b : Nat) (far : Int) : Bool := decide ((endN oc w p b : Int) - b - far ≤ (repN oc w (b + far.toNat) far.toNat oc.length : Nat))
noncomputable def runB (oc : List Int) (w p b : Nat) : Bool := !aheadB oc w p b && (decide (b + 2 * p ≤ endN oc w p b) && !(upto 1 (p - 1)).any (lessAt oc w p b))
noncomputable def rowRuns (oc : List Int) (w p j : Nat) : List Run := ((List.range j).filter (runB oc w p)).map fun b => (p, b, endN oc w p b)
noncomputable def allRuns (oc : List Int) (w k : Nat) : List Run := (List.range k).flatMap fun p => if p = 0 then [] else rowRuns oc w p (oc.length - 2 * p + 1)
theorem rowRuns_succ (oc : List Int) (w p j : Nat) : rowRuns oc w p (j + 1) = rowRuns oc w p j ++ if runB oc w p j = true then [(p, j, endN oc w p j)] else [] := by
  unfold rowRuns
  rw [List.range_succ, List.filter_append, List.map_append, List.filter_cons]
  split <;> rfl
theorem allRuns_succ (oc : List Int) (w k : Nat) (h : 0 < k) : allRuns oc w (k + 1) = allRuns oc w k ++ rowRuns oc w k (oc.length - 2 * k + 1) := by
  unfold allRuns
  rw [List.range_succ, List.flatMap_append, List.flatMap_singleton, if_neg (by lia)]
theorem rowRuns_len (oc : List Int) (w p j : Nat) : (rowRuns oc w p j).length ≤ j := by
  unfold rowRuns
  have := List.length_filter_le (runB oc w p) (List.range j)
  rw [List.length_range] at this
  rw [List.length_map]; exact this
theorem allRuns_len (oc : List Int) (w : Nat) : ∀ k, (allRuns oc w k).length ≤ k * (oc.length + 1)
  | 0 => Nat.zero_le _
  | k + 1 => by
    by_cases h : k = 0
    · subst h; exact Nat.zero_le _
    · have e := Nat.add_one_mul k (oc.length + 1)
      rw [allRuns_succ oc w k (by (clear e; lia)), List.length_append]
      have h1 := allRuns_len oc w k
      have h2 := rowRuns_len oc w k (oc.length - 2 * k + 1)
      omega
theorem alikeF_le (oc : List Int) (p o : Nat) : ∀ j k, alikeF oc p o j k ≤ k + j
  | 0, k => Nat.le_refl _
  | j + 1, k => by
    unfold alikeF
    split
    · have := alikeF_le oc p o j (k + 1); lia
    · lia
theorem repN_le (oc : List Int) (w p d m : Nat) : repN oc w p d m ≤ oc.length - p := by
  unfold repN
  split
  · exact Nat.zero_le _
  · have := alikeF_le oc p (p - d) (min m (oc.length - p)) 0
    unfold lenN; lia
theorem runs_ok {C : Cx} (ok : C.Ok) {n w : Nat} {Cl : Addr} {fs : List (Str × D)} {oc : List Int} {bs : BS} {Q : BS → R → Prop}
    (ho : Obj C Cl fs oc w) (hz : oc.length ≤ 16) (h : Q bs (.own ((allRuns oc w (oc.length / 2 + 1)).map runD))) : Fn C (n + 4) (.ref 340) [.inst Cl fs, .int oc.length] bs Q := by
  refine Fn_def ok (D_runs ok) rfl (by rfl) ?_
  refine Ex_cons (Ex1_assign_mu (Ev_list (EvD_nil ⟨Nat.zero_le _, ?_⟩)) (by rfl) (by rfl))
  refine Ex_cons (Ex1_forS (α := Nat) (fun xs k => 1 ≤ k ∧ k ≤ oc.length / 2 + 1 ∧ xs = (upto k (oc.length / 2 + 1 - k)).map D.int) (fun k => [("found", .mu ((allRuns oc w k).map runD)), ("finder", .val (.inst Cl fs)), ("size", .val (.int oc.length))]) (fun _ => bs) ?_ ?_ ?_ (by rfl) (by rfl))
  · refine Ev_range ok (by rfl) (by rfl) (by rfl) (EvD_cons (Ev_int ?_) (by rfl))
    refine EvD_cons (Ev_bin (Ev_bin (Ev_name (by rfl) (by rfl) ?_))) (by rfl)
    refine Ev_int (div_i (by decide) (by decide) ?_)
    rw [show ((oc.length : Int)).fdiv 2 = ((oc.length / 2 : Nat) : Int) by rw [Int.fdiv_eq_ediv_of_nonneg _ (by decide)]; rfl]
    refine Ev_int (add_i ?_)
    refine EvD_nil (range_2 ⟨_, 1, ItOk_up (by lia) (by lia), ⟨Nat.le_refl _, by lia, ?_⟩, SubV.all (by rfl), rfl⟩)
    rw [show (((oc.length / 2 : Nat) : Int) + 1 - 1).toNat = oc.length / 2 + 1 - 1 by lia]; rfl
  · intro x rest p ⟨i0, i1, i2⟩ I fin
    have hp : p < oc.length / 2 + 1 := by
      have := congrArg List.length i2
      simp [upto_length] at this; (clear hz i0 i1; omega)
    rw [show oc.length / 2 + 1 - p = (oc.length / 2 + 1 - (p + 1)) + 1 by lia, upto_succ, List.map_cons, List.cons.injEq] at i2
    obtain ⟨hx, hrest⟩ := i2
    subst hx
    refine ⟨_, rfl, ?_⟩
    have hal := allRuns_len oc w p
    have hal2 : p * (oc.length + 1) ≤ 16 * 17 := Nat.mul_le_mul (by (clear hp; lia)) (by lia)
    have hsucc := allRuns_succ oc w p i0
    generalize allRuns oc w p = acc at hal hsucc ⊢
    refine Ex_cons (Ex1_forS (α := Nat) (fun xs j => j ≤ oc.length - 2 * p + 1 ∧ xs = (upto j (oc.length - 2 * p + 1 - j)).map D.int) (fun j => [("found", .mu ((acc ++ rowRuns oc w p j).map runD)), ("period", .val (.int p)), ("finder", .val (.inst Cl fs)), ("size", .val (.int oc.length))]) (fun _ => bs) ?_ ?_ ?_ (by rfl) (by rfl))
    · refine Ev_range ok (by rfl) (by rfl) (by rfl) ?_
      refine EvD_cons (Ev_bin (Ev_bin (Ev_name (by rfl) (by rfl) ?_))) (by rfl)
      refine Ev_bin (Ev_int ?_)
      refine Ev_name (by rfl) (by rfl) (mul_i (by (clear i0 i1 hp; lia)) (sub_i ?_))
      refine Ev_int (add_i ?_)
      refine EvD_nil (range_1 ⟨_, 0, ItOk_up (by lia) (by (clear i0 i1 hp; lia)), ⟨Nat.zero_le _, ?_⟩, SubV.cons ?_ (SubV.all (by rfl)), rfl⟩)
      · rw [show ((oc.length : Int) - 2 * (p : Int) + 1 - 0).toNat = oc.length - 2 * p + 1 - 0 by (clear h; lia)]; rfl
      · show _ = some (Slot.mu ((acc ++ []).map runD))
        rw [List.append_nil]; rfl
    · intro x rest2 b ⟨j1, j2⟩ I2 fin2
      have hb : b < oc.length - 2 * p + 1 := by
        have := congrArg List.length j2
        simp [upto_length] at this; (clear hal2 hal; omega)
      rw [show oc.length - 2 * p + 1 - b = (oc.length - 2 * p + 1 - (b + 1)) + 1 by (clear hal2 hal; omega), upto_succ, List.map_cons, List.cons.injEq] at j2
      obtain ⟨hx, hrest2⟩ := j2
      subst hx
      refine ⟨_, rfl, ?_⟩
      have hrow := rowRuns_succ oc w p b
      have hlen := rowRuns_len oc w p b
      generalize rowRuns oc w p b = row at hrow hlen ⊢
      have ends : ∀ v : Vars, SubV [("period", .val (.int p)), ("finder", .val (.inst Cl fs)), ("size", .val (.int oc.length))] v → v.lookup ("found" : Str) = some (.mu ((acc ++ rowRuns oc w p (b + 1)).map runD)) → I2 v bs := fun v v1 v2 => fin2 _ _ ⟨b + 1, ⟨hb, hrest2⟩, SubV.cons v2 v1, rfl⟩
      clear fin2 fin
      refine Ex_cut (α := Unit) (fun _ => aheadB oc w p b = false) (fun _ => [("begin", .val (.int b)), ("found", .mu ((acc ++ row).map runD)), ("period", .val (.int p)), ("finder", .val (.inst Cl fs)), ("size", .val (.int oc.length))]) (fun _ => bs) ?_ fun _ ha => ?_
      · intro I3 fin3
        refine Ex1_if (Ts_boolop (TsA_and (Ts_cmp (Ev_name (by rfl) (by rfl) ?_) (by rfl))))
        refine Ev_int (gt_i ?_)
        refine And.intro (fun t => ?_) (fun t => And.intro (fun q => nomatch q) (fun _ => Ex_nil (fin3 _ _ ⟨(), ?_, SubV.all (by rfl), rfl⟩)))
        · have ht := of_decide_eq_true t
          refine TsA_and (Ts_cmp ?_ (by rfl))
          refine Ev_meth (n := n + 3) ok (by rfl) (by rfl) ho.m4.1 ho.m4.2 ?_ (Nat.le_refl _) (by rfl) (by rfl) (by decide)
          repeat (walk_at "mine")
          rw [show ((b : Int) + (p : Int) - 1) = ((b + p - 1 : Nat) : Int) by lia]
          refine repeat_ok (m := 1) ok ho (by (clear hz i0 hlen; omega)) (Ev_int (eq_i ?_))
          refine And.intro (fun t2 => TsA_and_nil (And.intro (fun _ => ?_) (fun q => nomatch q))) (fun t2 => And.intro (fun q => nomatch q) (fun _ => Ex_nil (fin3 _ _ ⟨(), ?_, SubV.all (by rfl), rfl⟩)))
          · refine Ex_cons (Ex1_cont (ends _ (SubV.all (by rfl)) ?_))
            have : runB oc w p b = false := by
              unfold runB aheadB
              have := of_decide_eq_true t2
              rw [decide_eq_true (show 0 < b by (clear t; lia)), decide_eq_true (show repN oc w (b + p - 1) p 1 = 1 by (clear t2; lia))]; rfl
            rw [hrow, this, if_neg (by decide), List.append_nil]; rfl
          · unfold aheadB
            have := of_decide_eq_false t2
            rw [decide_eq_false (show ¬ repN oc w (b + p - 1) p 1 = 1 by (clear t2; lia)), Bool.and_false]
        · unfold aheadB
          have := of_decide_eq_false t
          rw [decide_eq_false (by (clear t; lia)), Bool.false_and]
      refine Ex_cons (Ex1_assign (Ev_bin (Ev_bin (Ev_name (by rfl) (by rfl) ?_))) (by rfl) (by rfl))
      refine Ev_name (by rfl) (by rfl) (add_i ?_)
      refine Ev_meth (n := n + 3) ok (by rfl) (by rfl) ho.m4.1 ho.m4.2 ?_ (Nat.le_refl _) (by rfl) (by rfl) (by decide)
      repeat (walk_at "mine")
      rw [show ((b : Int) + (p : Int)) = ((b + p : Nat) : Int) by lia]
      refine repeat_ok ok ho (by (clear hz h hb; lia)) (add_i ?_)
      rw [show ((b + p : Nat) : Int) + ((repN oc w (b + p) p oc.length : Nat) : Int) = ((endN oc w p b : Nat) : Int) by unfold endN; lia]
      have hr : runB oc w p b = (decide (b + 2 * p ≤ endN oc w p b) && !(upto 1 (p - 1)).any (lessAt oc w p b)) := by unfold runB; rw [ha]; rfl
      have he : endN oc w p b ≤ oc.length := by
        have := repN_le oc w (b + p) p oc.length
        unfold endN; (clear hz h hb hr; lia)
      generalize hee : endN oc w p b = e at hr he hrow ⊢
      refine Ex_cons (Ex1_if (Ts_cmp (Ev_bin (Ev_name (by rfl) (by rfl) ?_)) (by rfl)))
      refine Ev_name (by rfl) (by rfl) (sub_i ?_)
      refine Ev_bin (Ev_int ?_)
      refine Ev_name (by rfl) (by rfl) (mul_i (by (clear hz; lia)) (ge_i ?_))
      refine And.intro (fun t => ?_) (fun t => Ex_nil (Ex_nil (ends _ (SubV.all (by rfl)) ?_)))
      rotate_left
      · rw [decide_eq_false (by have := of_decide_eq_false t; (clear t; lia)), Bool.false_and] at hr
        rw [hrow, hr, if_neg (by decide), List.append_nil]; rfl
      rw [decide_eq_true (by have := of_decide_eq_true t; (clear t; lia)), Bool.true_and] at hr
      refine Ex_cons (Ex1_assign_compR 1 (p - 1) (fun far => if lessAt oc w p b far = true then some (.int far) else none) (by decide) (by (clear hz hp; lia)) ?_ (fun far f0 f1 => ?_) (by rfl) (by rfl) (by rfl) (by rfl) (by rfl) (by rfl))
      · refine Ev_range ok (by rfl) (by rfl) (by rfl) (EvD_cons (Ev_int ?_) (by rfl))
        refine EvD_cons (Ev_name (by rfl) (by rfl) ?_) (by rfl)
        refine EvD_nil (range_2 ⟨⟨_, rfl, by (clear i0; lia), by (clear i1 hp; lia), by (clear hr; lia)⟩, rfl, ?_⟩)
        rw [filter_gI]
        refine Ex_cons (Ex1_if (Ts_cmp (Ev_name_mu (by rfl) (by rfl) ?_) (by rfl)))
        refine Ev_list (EvD_nil ⟨Nat.zero_le _, ?_⟩)
        refine eq_d (d := .list (((upto 1 (p - 1)).filter (lessAt oc w p b)).map D.int)) (e := .list []) (by rfl) (by rfl) (okN_ints _ _) (by rfl) fun t ht => ?_
        have ef : t = !(upto 1 (p - 1)).any (lessAt oc w p b) := by
          rw [← filter_ne (t := !t) (by cases t with | true => simpa using ht | false => simpa using ht), Bool.not_not]
        rw [← ef] at hr
        refine And.intro (fun q => ?_) (fun q => Ex_nil (Ex_nil (Ex_nil (ends _ (SubV.all (by rfl)) ?_))))
        · refine Ex_cons (Ex1_append (x := "found") (by rfl) (by rfl) (by rw [List.length_map, List.length_append]; (clear i0; lia)) (by rfl) (Ev_tuple ?_) (by rfl) (fun env he => by unfold interactive; rw [he]; rfl))
          refine EvD_cons (Ev_name (by rfl) (by rfl) ?_) (by rfl)
          refine EvD_cons (Ev_name (by rfl) (by rfl) ?_) (by rfl)
          refine EvD_cons (Ev_name (by rfl) (by rfl) ?_) (by rfl)
          refine EvD_nil ⟨by show 3 ≤ 1000; decide, ?_⟩
          refine Ex_nil (Ex_nil (Ex_nil (ends _ (SubV.all (by rfl)) ?_)))
          rw [hrow, hr, q, if_pos rfl, ← List.append_assoc, List.map_append (l₂ := [(p, b, e)])]; rfl
        · rw [hrow, hr, q, if_neg (by decide), List.append_nil]; rfl
      · refine TsL_cons (Ts_cmp ?_ (by rfl))
        refine Ev_meth (n := n + 3) ok (by rfl) (by rfl) ho.m4.1 ho.m4.2 ?_ (Nat.le_refl _) (by rfl) (by rfl) (by decide)
        repeat (walk_at "mine")
        obtain ⟨f, rfl⟩ := Int.eq_ofNat_of_zero_le (show 0 ≤ far by lia)
        rw [show ((b : Int) + (f : Int)) = ((b + f : Nat) : Int) by lia]
        refine repeat_ok ok ho (by lia) ?_
        refine Ev_bin (Ev_bin (Ev_name (by rfl) (by rfl) ?_))
        refine Ev_name (by rfl) (by rfl) (sub_i ?_)
        refine Ev_name (by rfl) (by rfl) (sub_i (ge_i ?_))
        have ef : lessAt oc w p b f = decide ((e : Int) - b - f ≤ (repN oc w (b + f) f oc.length : Nat)) := by unfold lessAt; rw [hee]; rfl
        refine And.intro (fun q => TsL_nil (And.intro (fun _ => ?_) (fun q => nomatch q))) (fun q => And.intro (fun q => nomatch q) (fun _ => ⟨rfl, ?_⟩))
        · refine Ev_name (by rfl) (by rfl) ⟨rfl, ?_⟩
          rw [if_pos (ef.trans q)]
        · rw [if_neg (by rw [ef, q]; decide)]
    · intro j ⟨j1, j2⟩
      have hj : j = oc.length - 2 * p + 1 := by
        have := congrArg List.length j2
        simp [upto_length] at this; (clear j2; lia)
      subst hj
      exact Ex_nil (Ex_nil (fin _ _ ⟨p + 1, ⟨by lia, by assumption, hrest⟩, SubV.cons (by rw [hsucc]; rfl) (SubV.all (by rfl)), rfl⟩))
  · intro k ⟨i0, i1, i2⟩
    have hi : k = oc.length / 2 + 1 := by
      have := congrArg List.length i2
      simp [upto_length] at this; (clear i2; lia)
    subst hi
    exact Ex_nil (Ex_cons (Ex1_ret (Ev_name_mu (by rfl) (by rfl) h)))
end
section
set_option maxRecDepth 100000
set_option maxHeartbeats 8000000
set_option linter.unusedVariables false
theorem D_divisor {C : Cx} (ok : C.Ok) : DefAt C 347 ["one", "other"] (bodyAt C.K 347) (scAt C.K 347) := by
  refine DefAt.of ok (by rfl) fun fd e vs hl s X => bindsN X fun S => ?_
  cases e
  obtain ⟨a, b, rfl⟩ := len2 hl
  rfl
theorem D_apart {C : Cx} (ok : C.Ok) : DefAt C 354 ["told"] (bodyAt C.K 354) (scAt C.K 354) := by
  refine DefAt.of ok (by rfl) fun fd e vs hl s X => bindsN X fun S => ?_
  cases e
  obtain ⟨a, rfl⟩ := len1 hl
  rfl
theorem divisor_ok {C : Cx} (ok : C.Ok) {n a b : Nat} {bs : BS} {Q : BS → R → Prop} (h : Q bs (.val (.int (Nat.gcd a b : Nat)))) : Fn C (n + 1) (.ref 347) [.int a, .int b] bs Q := by
  refine Fn_def ok (D_divisor ok) rfl (by rfl) ?_
  refine Ex_cons (Ex1_whileS (α := Nat × Nat) (fun s => Nat.gcd s.1 s.2 = Nat.gcd a b) (fun s => [("one", .val (.int s.1)), ("other", .val (.int s.2))]) (fun _ => bs) (fun s => s.2) ⟨(a, b), rfl, SubV.all (by rfl), rfl⟩ fun ⟨x, y⟩ hg I fin => ?_)
  dsimp only at hg ⊢
  refine Ts_cmp (Ev_name (by rfl) (by rfl) ?_) (by rfl)
  refine Ev_int (gt_i ?_)
  refine And.intro (fun t => ?_) (fun t => ?_)
  · have ht := of_decide_eq_true t
    refine Ex_cons (Ex1_assign_tup (xs := ["one", "other"]) (by rfl) (by first | (left; rfl) | (right; rfl)) (by rfl) (by decide) ?_)
    refine EvL_cons (Ev_name (by rfl) (by rfl) ?_) (by rfl)
    refine EvL_cons (Ev_bin (Ev_name (by rfl) (by rfl) ?_)) (by rfl)
    refine Ev_name (by rfl) (by rfl) (mod_i (by (clear t; lia)) ?_)
    rw [show (x : Int).fmod (y : Int) = ((x % y : Nat) : Int) by rw [Int.fmod_eq_emod_of_nonneg _ (by (clear t; lia))]; rfl]
    refine EvL_nil ⟨_, rfl, by show 2 ≤ 1000; decide, ?_⟩
    refine Ex_nil (fin _ _ ⟨(y, x % y), Nat.mod_lt _ (by (clear t; lia)), ?_, SubV.all (by rfl), rfl⟩)
    show Nat.gcd y (x % y) = _
    rw [Nat.gcd_comm, ← Nat.gcd_rec, Nat.gcd_comm, hg]
  · have ht := of_decide_eq_false t
    obtain rfl : y = 0 := by (clear t; lia)
    rw [Nat.gcd_zero_right] at hg
    subst hg
    exact Ex_nil (Ex_cons (Ex1_ret (Ev_name (by rfl) (by rfl) h)))
theorem getT {L : List Run} {k : Nat} (h : k < L.length) : (L.map runD)[k]? = some (runD (L.getD k (0, 0, 0))) := by
  rw [List.getElem?_map, List.getD_eq_getElem?_getD, List.getElem?_eq_getElem h]; rfl
theorem apart_ok {C : Cx} (ok : C.Ok) {n : Nat} {L : List Run} {bs : BS} {Q : BS → R → Prop} (hl : L.length ≤ 1000)
    (hm : ∀ i j, j < i → i < L.length → min (L.getD i (0, 0, 0)).2.2 (L.getD j (0, 0, 0)).2.2 + Nat.gcd (L.getD i (0, 0, 0)).1 (L.getD j (0, 0, 0)).1 < max (L.getD i (0, 0, 0)).2.1 (L.getD j (0, 0, 0)).2.1 + (L.getD i (0, 0, 0)).1 + (L.getD j (0, 0, 0)).1)
    (h : Q bs (.val (.bool true))) : Fn C (n + 2) (.ref 354) [.list (L.map runD)] bs Q := by
  refine Fn_def ok (D_apart ok) rfl (by rfl) ?_
  refine Ex_cons (Ex1_forS (α := Nat) (fun xs i => i ≤ L.length ∧ xs = (upto i (L.length - i)).map D.int) (fun i => [("told", .val (.list (L.map runD)))]) (fun _ => bs) ?_ ?_ ?_ (by rfl) (by rfl))
  · refine Ev_range ok (by rfl) (by rfl) (by rfl) ?_
    refine EvD_cons (Ev_len ok (by rfl) (by rfl) (by rfl) (Ev_name (by rfl) (by rfl) (len_l (ds := L.map runD) (by rfl) (by rw [List.length_map]; lia) ?_))) (by rfl)
    rw [List.length_map]
    refine EvD_nil (range_1 ⟨_, 0, ItOk_up (by lia) (by lia), ⟨Nat.zero_le _, by rw [show ((L.length : Int) - 0).toNat = L.length - 0 by lia]; rfl⟩, SubV.all (by rfl), rfl⟩)
  · intro x rest i ⟨i1, i2⟩ I fin
    have hi : i < L.length := by
      have := congrArg List.length i2
      simp [upto_length] at this; (clear hl i1; omega)
    rw [show L.length - i = (L.length - (i + 1)) + 1 by lia, upto_succ, List.map_cons, List.cons.injEq] at i2
    obtain ⟨hx, hrest⟩ := i2
    subst hx
    refine ⟨_, rfl, ?_⟩
    have hmi := fun j hj => hm i j hj hi
    refine Ex_cons (Ex1_unpack ?_ (by rfl) (by rfl) (by rfl))
    refine Ev_sub (Ev_name (by rfl) (by rfl) ?_) (by rfl)
    refine Ev_name (by rfl) (by rfl) ⟨rfl, item_l (d := runD (L.getD i (0, 0, 0))) (ds := L.map runD) (by rfl) (by (clear hrest; lia)) (by (clear hi; lia)) (by exact getT (k := i) hi) ⟨_, rfl, ?_⟩⟩
    generalize L.getD i (0, 0, 0) = x at hmi ⊢
    obtain ⟨p, b, e⟩ := x
    dsimp only at hmi
    refine Ex_cons (Ex1_forS (α := Nat) (fun xs j => j ≤ i ∧ xs = ((L.take i).drop j).map runD) (fun _ => [("far", .val (.int p)), ("begin", .val (.int b)), ("end", .val (.int e)), ("told", .val (.list (L.map runD)))]) (fun _ => bs) ?_ ?_ ?_ (by rfl) (by rfl))
    · refine Ev_slice (Ev_name (by rfl) (by rfl) ?_)
      refine EvP_none (EvP_some (Ev_name (by rfl) (by rfl) ?_))
      refine And.intro (by rw [List.length_map]; lia) ?_
      rw [cut_map, cut_take (by lia), Int.toNat_natCast]
      exact ⟨_, 0, ItOk_list, ⟨Nat.zero_le _, rfl⟩, SubV.all (by rfl), rfl⟩
    · intro x rest2 j ⟨j1, j2⟩ I2 fin2
      have hj : j < i := by
        have := congrArg List.length j2
        simp at this; lia
      have hjl : j < L.length := by (clear hl hi; lia)
      have hd : (L.take i).drop j = L.getD j (0, 0, 0) :: (L.take i).drop (j + 1) := by
        rw [List.drop_eq_getElem_cons (by rw [List.length_take]; (clear j1; lia)), List.getElem_take, List.getD_eq_getElem?_getD, List.getElem?_eq_getElem hjl]; rfl
      rw [hd, List.map_cons, List.cons.injEq] at j2
      obtain ⟨hx, hrest2⟩ := j2
      subst hx
      have hmj := hmi j hj
      generalize L.getD j (0, 0, 0) = y at hmj ⊢
      obtain ⟨p', b', e'⟩ := y
      dsimp only at hmj
      refine ⟨_, rfl, ?_⟩
      refine Ex_cons (Ex1_if (Ts_cmp (Ev_bin (Ev_min ok (by rfl) (by rfl) (by rfl) ?_)) (by rfl)))
      refine EvD_cons (Ev_name (by rfl) (by rfl) ?_) (by rfl)
      refine EvD_cons (Ev_name (by rfl) (by rfl) ?_) (by rfl)
      refine EvD_nil (min_ii ?_)
      refine Ev_max ok (by rfl) (by rfl) (by rfl) ?_
      refine EvD_cons (Ev_name (by rfl) (by rfl) ?_) (by rfl)
      refine EvD_cons (Ev_name (by rfl) (by rfl) ?_) (by rfl)
      refine EvD_nil (max_ii (sub_i ?_))
      refine Ev_bin (Ev_bin (Ev_name (by rfl) (by rfl) ?_))
      refine Ev_name (by rfl) (by rfl) (add_i ?_)
      refine Ev_fun (f := 347) (n := n + 1) ok (by rfl) (by rfl) (by rfl) (by rfl) (Nat.le_refl _) (by rfl) ?_
      refine EvD_cons (Ev_name (by rfl) (by rfl) ?_) (by rfl)
      refine EvD_cons (Ev_name (by rfl) (by rfl) ?_) (by rfl)
      refine EvD_nil (divisor_ok ok (sub_i (ge_i ?_)))
      refine And.intro (fun t => absurd (of_decide_eq_true t) (by (clear hrest t; lia))) (fun _ => Ex_nil (Ex_nil (fin2 _ _ ⟨j + 1, ⟨hj, hrest2⟩, SubV.all (by rfl), rfl⟩)))
    · intro j ⟨j1, j2⟩
      exact Ex_nil (Ex_nil (fin _ _ ⟨i + 1, ⟨hi, hrest⟩, SubV.all (by rfl), rfl⟩))
  · intro i _
    exact Ex_nil (Ex_cons (Ex1_ret (Ev_bool h)))
end
section
set_option maxRecDepth 100000
set_option maxHeartbeats 8000000
set_option linter.unusedVariables false
theorem D_ways {C : Cx} (ok : C.Ok) : DefAt C 361 ["finder", "text", "place"] (bodyAt C.K 361) (scAt C.K 361) := by
  refine DefAt.of ok (by rfl) fun fd e vs hl s X => bindsN X fun S => ?_
  cases e
  obtain ⟨a, b, c, rfl⟩ := len3 hl
  rfl
theorem D_about {C : Cx} (ok : C.Ok) : DefAt C 368 ["finder", "place", "period", "size"] (bodyAt C.K 368) (scAt C.K 368) := by
  refine DefAt.of ok (by rfl) fun fd e vs hl s X => bindsN X fun S => ?_
  cases e
  obtain ⟨a, b, c, d, rfl⟩ := len4 hl
  rfl
theorem D_marks {C : Cx} (ok : C.Ok) : DefAt C 373 ["finder", "text"] (bodyAt C.K 373) (scAt C.K 373) := by
  refine DefAt.of ok (by rfl) fun fd e vs hl s X => bindsN X fun S => ?_
  cases e
  obtain ⟨a, b, rfl⟩ := len2 hl
  rfl
/-- what goes on from another place is less (false), greater (true) -/
noncomputable def turnB (oc : List Int) (w p o : Nat) : Bool := !(decide (oc.length ≤ o + repN oc w o (o - p) oc.length) || decide (oc.getD (o + repN oc w o (o - p) oc.length) 0 < oc.getD (p + repN oc w o (o - p) oc.length) 0))
noncomputable def waysTo (oc : List Int) (w p : Nat) : Nat → Nat × Nat
  | 0 => (0, 0)
  | k + 1 => if turnB oc w p (p + 1 + k) = true then ((waysTo oc w p k).1, if (waysTo oc w p k).2 = 0 then k + 1 else (waysTo oc w p k).2)
    else (if (waysTo oc w p k).1 = 0 then k + 1 else (waysTo oc w p k).1, (waysTo oc w p k).2)
theorem waysTo_le (oc : List Int) (w p : Nat) : ∀ k, (waysTo oc w p k).1 ≤ k ∧ (waysTo oc w p k).2 ≤ k
  | 0 => ⟨Nat.le_refl _, Nat.le_refl _⟩
  | k + 1 => by
    obtain ⟨h1, h2⟩ := waysTo_le oc w p k
    unfold waysTo
    split
    · refine ⟨Nat.le_succ_of_le h1, ?_⟩
      dsimp only
      split <;> lia
    · refine ⟨?_, Nat.le_succ_of_le h2⟩
      dsimp only
      split <;> lia
theorem ways_ok {C : Cx} (ok : C.Ok) {n w p : Nat} {Cl : Addr} {fs : List (Str × D)} {oc : List Int} {bs : BS} {Q : BS → R → Prop}
    (ho : Obj C Cl fs oc w) (hz : oc.length ≤ 16) (hp : p ≤ oc.length) (h : Q bs (.own [.int (waysTo oc w p (oc.length - p)).1, .int (waysTo oc w p (oc.length - p)).2])) : Fn C (n + 4) (.ref 361) [.inst Cl fs, .bytes oc, .int p] bs Q := by
  refine Fn_def ok (D_ways ok) rfl (by rfl) ?_
  refine Ex_cons (Ex1_assign_tup (xs := ["size", "ways"]) (by rfl) (by first | (left; rfl) | (right; rfl)) (by rfl) (by decide) ?_)
  refine EvL_cons (Ev_len ok (by rfl) (by rfl) (by rfl) (Ev_name (by rfl) (by rfl) (len_by (by lia) ?_))) (by rfl)
  refine EvL_cons (Ev_list (EvD_cons (Ev_int ?_) (by rfl))) (by rfl)
  refine EvD_cons (Ev_int ?_) (by rfl)
  refine EvD_nil ⟨by show 2 ≤ 1000; decide, ?_⟩
  refine EvL_nil ⟨_, rfl, by show 2 ≤ 1000; decide, ?_⟩
  refine Ex_cons (Ex1_forS (α := Nat) (fun xs k => k ≤ oc.length - p ∧ xs = (upto ((p + 1 + k : Nat) : Int) (oc.length - p - k)).map D.int) (fun k => [("ways", .mu [.int (waysTo oc w p k).1, .int (waysTo oc w p k).2]), ("finder", .val (.inst Cl fs)), ("text", .val (.bytes oc)), ("place", .val (.int p)), ("size", .val (.int oc.length))]) (fun _ => bs) ?_ ?_ ?_ (by rfl) (by rfl))
  · refine Ev_range ok (by rfl) (by rfl) (by rfl) ?_
    refine EvD_cons (Ev_bin (Ev_name (by rfl) (by rfl) ?_)) (by rfl)
    refine Ev_int (add_i ?_)
    refine EvD_cons (Ev_bin (Ev_name (by rfl) (by rfl) ?_)) (by rfl)
    refine Ev_int (add_i ?_)
    refine EvD_nil (range_2 ⟨_, 0, ItOk_up (by lia) (by lia), ⟨Nat.zero_le _, ?_⟩, SubV.all (by rfl), rfl⟩)
    rw [show ((oc.length : Int) + 1 - ((p : Int) + 1)).toNat = oc.length - p - 0 by lia]; rfl
  · intro x rest k ⟨i1, i2⟩ I fin
    have hk : k < oc.length - p := by
      have := congrArg List.length i2
      simp [upto_length] at this; (clear hp i1; omega)
    rw [show oc.length - p - k = (oc.length - p - (k + 1)) + 1 by (clear hp; lia), upto_succ, List.map_cons, List.cons.injEq] at i2
    obtain ⟨hx, hrest⟩ := i2
    subst hx
    refine ⟨_, rfl, ?_⟩
    have hs : waysTo oc w p (k + 1) = if turnB oc w p (p + 1 + k) = true then ((waysTo oc w p k).1, if (waysTo oc w p k).2 = 0 then k + 1 else (waysTo oc w p k).2)
      else (if (waysTo oc w p k).1 = 0 then k + 1 else (waysTo oc w p k).1, (waysTo oc w p k).2) := rfl
    generalize waysTo oc w p k = s at hs ⊢
    obtain ⟨s1, s2⟩ := s
    dsimp only at hs ⊢
    have hrest : rest = (upto ((p + 1 + (k + 1) : Nat) : Int) (oc.length - p - (k + 1))).map D.int := by
      rw [hrest, show (((p + 1 + k : Nat) : Int) + 1) = ((p + 1 + (k + 1) : Nat) : Int) by lia]
    have ends : ∀ v : Vars, SubV [("finder", .val (.inst Cl fs)), ("text", .val (.bytes oc)), ("place", .val (.int p)), ("size", .val (.int oc.length))] v → v.lookup ("ways" : Str) = some (.mu [.int (waysTo oc w p (k + 1)).1, .int (waysTo oc w p (k + 1)).2]) → I v bs := fun v v1 v2 => fin _ _ ⟨k + 1, ⟨hk, hrest⟩, SubV.cons v2 v1, rfl⟩
    rw [hs] at ends
    clear hs hrest i1 fin
    have hol : p + 1 + k ≤ oc.length := by (clear hz hp; omega)
    have hok : p + 1 + k - p = k + 1 := by lia
    have hop : p < p + 1 + k := by lia
    generalize p + 1 + k = o at hol hok hop ends ⊢
    refine Ex_cons (Ex1_assign ?_ (by rfl) (by rfl))
    refine Ev_meth (n := n + 3) ok (by rfl) (by rfl) ho.m4.1 ho.m4.2 ?_ (Nat.le_refl _) (by rfl) (by rfl) (by decide)
    repeat (walk_at "mine")
    rw [show ((o : Int) - (p : Int)) = ((o - p : Nat) : Int) by (clear hop; lia)]
    refine repeat_ok ok ho hol ?_
    have ht : turnB oc w p o = !(decide (oc.length ≤ o + repN oc w o (o - p) oc.length) || decide (oc.getD (o + repN oc w o (o - p) oc.length) 0 < oc.getD (p + repN oc w o (o - p) oc.length) 0)) := rfl
    generalize repN oc w o (o - p) oc.length = c at ht ⊢
    refine Ex_cut (α := Int) (fun t => t = if turnB oc w p o = true then 1 else 0) (fun t => [("turn", .val (.int t)), ("other", .val (.int o)), ("ways", .mu [.int s1, .int s2]), ("finder", .val (.inst Cl fs)), ("text", .val (.bytes oc)), ("place", .val (.int p)), ("size", .val (.int oc.length))]) (fun _ => bs) ?_ fun t ht2 => ?_
    · intro I3 fin3
      have f0 : turnB oc w p o = false → ∀ v : Vars, v.lookup ("turn" : Str) = some (.val (.int 0)) → SubV [("other", .val (.int o)), ("ways", .mu [.int s1, .int s2]), ("finder", .val (.inst Cl fs)), ("text", .val (.bytes oc)), ("place", .val (.int p)), ("size", .val (.int oc.length))] v → I3 v bs := fun e v v1 v2 => fin3 _ _ ⟨0, by rw [if_neg (by rw [e]; decide)], SubV.cons v1 v2, rfl⟩
      have f1 : turnB oc w p o = true → ∀ v : Vars, v.lookup ("turn" : Str) = some (.val (.int 1)) → SubV [("other", .val (.int o)), ("ways", .mu [.int s1, .int s2]), ("finder", .val (.inst Cl fs)), ("text", .val (.bytes oc)), ("place", .val (.int p)), ("size", .val (.int oc.length))] v → I3 v bs := fun e v v1 v2 => fin3 _ _ ⟨1, by rw [if_pos e], SubV.cons v1 v2, rfl⟩
      clear fin3
      refine Ex1_assign (Ev_if (Ts_boolop (TsA_or (Ts_cmp (Ev_bin (Ev_name (by rfl) (by rfl) ?_)) (by rfl))))) (by rfl) (by rfl)
      refine Ev_name (by rfl) (by rfl) (add_i ?_)
      refine Ev_name (by rfl) (by rfl) (ge_i ?_)
      refine And.intro (fun t => And.intro (fun _ => Ev_int (f0 ?_ _ (by rfl) (SubV.all (by rfl)))) (fun q => nomatch q)) (fun t => ?_)
      · have := of_decide_eq_true t
        rw [ht, decide_eq_true (show oc.length ≤ o + c by (clear t; lia))]; rfl
      have hlt := of_decide_eq_false t
      have hlt : o + c < oc.length := by (clear t; lia)
      rw [decide_eq_false (show ¬ oc.length ≤ o + c by (clear t; lia)), Bool.false_or] at ht
      refine TsA_or (Ts_cmp (Ev_sub (Ev_name (by rfl) (by rfl) ?_) (by rfl)) (by rfl))
      refine Ev_bin (Ev_name (by rfl) (by rfl) ?_)
      have gi : ∀ i, i < oc.length → oc[i]? = some (oc.getD i 0) := fun i hi => by rw [List.getD_eq_getElem?_getD, List.getElem?_eq_getElem hi]; rfl
      refine Ev_name (by rfl) (by rfl) (add_i ⟨rfl, item_by (c := oc.getD (o + c) 0) (by (clear hop; lia)) (by lia) (by exact gi (o + c) hlt) ?_⟩)
      refine Ev_sub (Ev_name (by rfl) (by rfl) ?_) (by rfl)
      refine Ev_bin (Ev_name (by rfl) (by rfl) ?_)
      refine Ev_name (by rfl) (by rfl) (add_i ⟨rfl, item_by (c := oc.getD (p + c) 0) (by lia) (by lia) (by exact gi (p + c) (by (clear t; lia))) (lt_i ?_)⟩)
      refine And.intro (fun t2 => And.intro (fun _ => Ev_int (f0 ?_ _ (by rfl) (SubV.all (by rfl)))) (fun q => nomatch q)) (fun t2 => TsA_or_nil (And.intro (fun q => nomatch q) (fun _ => Ev_int (f1 ?_ _ (by rfl) (SubV.all (by rfl))))))
      · rw [ht, t2]; rfl
      · rw [ht, t2]; rfl
    clear ht
    generalize turnB oc w p o = tb at ht2 ends
    cases tb
    · have ht2 : t = 0 := ht2
      subst ht2
      refine Ex_cons (Ex1_if (Ts_cmp (Ev_sub (Ev_name_mu (by rfl) (by rfl) ?_) (by rfl)) (by rfl)))
      refine Ev_name (by rfl) (by rfl) ⟨rfl, item_l (d := .int s1) (ds := [.int s1, .int s2]) (by rfl) (by decide) (by decide) (by rfl) ?_⟩
      refine Ev_int (eq_i ?_)
      refine And.intro (fun t => ?_) (fun t => Ex_nil (Ex_nil (ends _ (SubV.all (by rfl)) ?_)))
      · have h0 : s1 = 0 := by have := of_decide_eq_true t; (clear t; lia)
        refine Ex_cons (Ex1_setitem (x := "ways") (ds := [.int s1, .int s2]) (by rfl) (by rfl) (by rfl) (Ev_bin (Ev_name (by rfl) (by rfl) ?_)))
        refine Ev_name (by rfl) (by rfl) (sub_i ?_)
        refine Ev_name (by rfl) (by rfl) ?_
        refine And.intro (by decide) ⟨by show (0 : Int) < 2; decide, by show 2 < 2 ^ 40; decide, ?_⟩
        refine Ex_nil (Ex_nil (ends _ (SubV.all (by rfl)) ?_))
        rw [show ((o : Int) - (p : Int)) = ((k + 1 : Nat) : Int) by (clear hz hp hk hol hop ht2 h0; omega), h0]; rfl
      · have h0 : s1 ≠ 0 := by have := of_decide_eq_false t; (clear t; lia)
        rw [if_neg (show ¬ (false = true) by decide), if_neg h0]; rfl
    · have ht2 : t = 1 := ht2
      subst ht2
      refine Ex_cons (Ex1_if (Ts_cmp (Ev_sub (Ev_name_mu (by rfl) (by rfl) ?_) (by rfl)) (by rfl)))
      refine Ev_name (by rfl) (by rfl) ⟨rfl, item_l (d := .int s2) (ds := [.int s1, .int s2]) (by rfl) (by decide) (by decide) (by rfl) ?_⟩
      refine Ev_int (eq_i ?_)
      refine And.intro (fun t => ?_) (fun t => Ex_nil (Ex_nil (ends _ (SubV.all (by rfl)) ?_)))
      · have h0 : s2 = 0 := by have := of_decide_eq_true t; (clear t; lia)
        refine Ex_cons (Ex1_setitem (x := "ways") (ds := [.int s1, .int s2]) (by rfl) (by rfl) (by rfl) (Ev_bin (Ev_name (by rfl) (by rfl) ?_)))
        refine Ev_name (by rfl) (by rfl) (sub_i ?_)
        refine Ev_name (by rfl) (by rfl) ?_
        refine And.intro (by decide) ⟨by show (1 : Int) < 2; decide, by show 2 < 2 ^ 40; decide, ?_⟩
        refine Ex_nil (Ex_nil (ends _ (SubV.all (by rfl)) ?_))
        rw [show ((o : Int) - (p : Int)) = ((k + 1 : Nat) : Int) by (clear hz hp hk hol hop ht2 h0; omega), h0]; rfl
      · have h0 : s2 ≠ 0 := by have := of_decide_eq_false t; (clear t; lia)
        rw [if_pos (show true = true from rfl), if_neg h0]; rfl
  · intro k ⟨i1, i2⟩
    have hi : k = oc.length - p := by
      have := congrArg List.length i2
      simp [upto_length] at this; (clear hp; omega)
    subst hi
    exact Ex_nil (Ex_cons (Ex1_ret (Ev_name_mu (by rfl) (by rfl) h)))
end
section
set_option maxRecDepth 100000
set_option maxHeartbeats 8000000
set_option linter.unusedVariables false
noncomputable def backF (oc : List Int) (w p : Nat) : Nat → Nat
  | 0 => 0
  | b + 1 => if aheadB oc w p (b + 1) = true then backF oc w p b else b + 1
/-- the stretch about a place that holds a period -/
noncomputable def aboutR (oc : List Int) (w q p : Nat) : Run := (p, backF oc w p q, endN oc w p (backF oc w p q))
theorem backF_le (oc : List Int) (w p : Nat) : ∀ q, backF oc w p q ≤ q
  | 0 => Nat.le_refl _
  | b + 1 => by
    unfold backF
    split
    · exact Nat.le_succ_of_le (backF_le oc w p b)
    · exact Nat.le_refl _
theorem about_ok {C : Cx} (ok : C.Ok) {n w q p : Nat} {Cl : Addr} {fs : List (Str × D)} {oc : List Int} {bs : BS} {Q : BS → R → Prop}
    (ho : Obj C Cl fs oc w) (hp1 : 1 ≤ p) (hp : q + p ≤ oc.length) (h : Q bs (.val (runD (aboutR oc w q p)))) : Fn C (n + 4) (.ref 368) [.inst Cl fs, .int q, .int p, .int oc.length] bs Q := by
  refine Fn_def ok (D_about ok) rfl (by rfl) ?_
  have hz := ho.size
  refine Ex_cons (Ex1_assign (Ev_name (by rfl) (by rfl) ?_) (by rfl) (by rfl))
  refine Ex_cut (α := Unit) (fun _ => True) (fun _ => [("begin", .val (.int (backF oc w p q))), ("finder", .val (.inst Cl fs)), ("period", .val (.int p)), ("size", .val (.int oc.length))]) (fun _ => bs) ?_ fun _ _ => ?_
  · intro I3 fin3
    refine Ex1_whileS (α := Nat) (fun b => b ≤ q ∧ backF oc w p b = backF oc w p q) (fun b => [("begin", .val (.int b)), ("finder", .val (.inst Cl fs)), ("period", .val (.int p)), ("size", .val (.int oc.length))]) (fun _ => bs) (fun b => b) ⟨q, ⟨Nat.le_refl _, rfl⟩, SubV.all (by rfl), rfl⟩ fun b ⟨hb, hB⟩ I fin => ?_
    have stop : aheadB oc w p b = false → backF oc w p q = b := fun ha => by
      cases b with
      | zero => rw [← hB]; rfl
      | succ b =>
        rw [← hB]
        unfold backF
        rw [ha, if_neg (by decide)]
    refine Ts_boolop (TsA_and (Ts_cmp (Ev_name (by rfl) (by rfl) ?_) (by rfl)))
    refine Ev_int (gt_i ?_)
    refine And.intro (fun t => ?_) (fun t => And.intro (fun q => nomatch q) (fun _ => Ex_nil (fin3 _ _ ⟨(), trivial, SubV.cons ?_ (SubV.all (by rfl)), rfl⟩)))
    rotate_left
    · rw [stop (by unfold aheadB; rw [decide_eq_false (by have := of_decide_eq_false t; (clear t; lia)), Bool.false_and])]; rfl
    have ht := of_decide_eq_true t
    refine TsA_and (Ts_cmp ?_ (by rfl))
    refine Ev_meth (n := n + 3) ok (by rfl) (by rfl) ho.m4.1 ho.m4.2 ?_ (Nat.le_refl _) (by rfl) (by rfl) (by decide)
    repeat (walk_at "mine")
    rw [show ((b : Int) + (p : Int) - 1) = ((b + p - 1 : Nat) : Int) by lia]
    refine repeat_ok (m := 1) ok ho (by (clear hp1 ht; omega)) (Ev_int (eq_i ?_))
    refine And.intro (fun t2 => TsA_and_nil (And.intro (fun _ => ?_) (fun q => nomatch q))) (fun t2 => And.intro (fun q => nomatch q) (fun _ => Ex_nil (fin3 _ _ ⟨(), trivial, SubV.cons ?_ (SubV.all (by rfl)), rfl⟩)))
    · have ha : aheadB oc w p b = true := by
        unfold aheadB
        have := of_decide_eq_true t2
        rw [decide_eq_true (show 0 < b by (clear t; lia)), decide_eq_true (show repN oc w (b + p - 1) p 1 = 1 by (clear t2; lia))]; rfl
      obtain ⟨b', rfl⟩ : ∃ b', b = b' + 1 := ⟨b - 1, by (clear t; lia)⟩
      have hB2 : backF oc w p b' = backF oc w p q := by
        rw [← hB]
        conv => rhs; unfold backF
        rw [ha, if_pos rfl]
      refine Ex_cons (Ex1_assign (Ev_bin (Ev_name (by rfl) (by rfl) ?_)) (by rfl) (by rfl))
      refine Ev_int (sub_i ?_)
      rw [show (((b' + 1 : Nat) : Int) - 1) = ((b' : Nat) : Int) by lia]
      exact Ex_nil (fin _ _ ⟨b', Nat.lt_succ_self _, ⟨by lia, hB2⟩, SubV.all (by rfl), rfl⟩)
    · rw [stop (by unfold aheadB; have := of_decide_eq_false t2; rw [decide_eq_false (show ¬ repN oc w (b + p - 1) p 1 = 1 by (clear t2; lia)), Bool.and_false])]; rfl
  have hle := backF_le oc w p q
  unfold aboutR endN at h
  generalize backF oc w p q = b at h hle ⊢
  refine Ex_cons (Ex1_ret (Ev_tuple ?_))
  refine EvD_cons (Ev_name (by rfl) (by rfl) ?_) (by rfl)
  refine EvD_cons (Ev_name (by rfl) (by rfl) ?_) (by rfl)
  refine EvD_cons (Ev_bin (Ev_bin (Ev_name (by rfl) (by rfl) ?_))) (by rfl)
  refine Ev_name (by rfl) (by rfl) (add_i ?_)
  refine Ev_meth (n := n + 3) ok (by rfl) (by rfl) ho.m4.1 ho.m4.2 ?_ (Nat.le_refl _) (by rfl) (by rfl) (by decide)
  repeat (walk_at "mine")
  rw [show ((b : Int) + (p : Int)) = ((b + p : Nat) : Int) by lia]
  refine repeat_ok ok ho (by lia) (add_i ?_)
  refine EvD_nil ⟨by show 3 ≤ 1000; decide, ?_⟩
  rw [show ((b + p : Nat) : Int) + ((repN oc w (b + p) p oc.length : Nat) : Int) = ((b + p + repN oc w (b + p) p oc.length : Nat) : Int) by (clear h; lia)]
  exact h
abbrev Mark := Nat × Run
noncomputable def markD (x : Mark) : D := .tuple [.int x.1, runD x.2]
noncomputable def markOf (oc : List Int) (w q d : Nat) : Option Mark := if 2 * d ≤ (aboutR oc w q d).2.2 - (aboutR oc w q d).2.1 then some (q, aboutR oc w q d) else none
noncomputable def waysL (oc : List Int) (w q : Nat) : List Nat := [(waysTo oc w q (oc.length - q)).1, (waysTo oc w q (oc.length - q)).2].filter (decide <| 0 < ·)
noncomputable def marksAt (oc : List Int) (w q : Nat) : List Mark := (waysL oc w q).filterMap (markOf oc w q)
noncomputable def allMarks (oc : List Int) (w k : Nat) : List Mark := (List.range k).flatMap (marksAt oc w)
theorem waysL_mem {oc : List Int} {w q d : Nat} (h : d ∈ waysL oc w q) : 1 ≤ d ∧ d ≤ oc.length - q := by
  obtain ⟨h1, h2⟩ := List.mem_filter.mp h
  have h2 := of_decide_eq_true h2
  have h3 := waysTo_le oc w q (oc.length - q)
  simp only [List.mem_cons, List.not_mem_nil, or_false] at h1
  rcases h1 with rfl | rfl <;> lia
theorem waysL_len (oc : List Int) (w q : Nat) : (waysL oc w q).length ≤ 2 := List.length_filter_le _ _
theorem allMarks_len (oc : List Int) (w : Nat) : ∀ k, (allMarks oc w k).length ≤ 2 * k
  | 0 => Nat.zero_le _
  | k + 1 => by
    have h1 := allMarks_len oc w k
    have h2 := List.length_filterMap_le (markOf oc w k) (waysL oc w k)
    have h3 := waysL_len oc w k
    unfold allMarks marksAt at h1 ⊢
    rw [List.range_succ, List.flatMap_append, List.flatMap_singleton, List.length_append]
    lia
theorem marks_ok {C : Cx} (ok : C.Ok) {n w : Nat} {Cl : Addr} {fs : List (Str × D)} {oc : List Int} {bs : BS} {Q : BS → R → Prop}
    (ho : Obj C Cl fs oc w) (hz : oc.length ≤ 16) (h : Q bs (.own ((allMarks oc w oc.length).map markD))) : Fn C (n + 5) (.ref 373) [.inst Cl fs, .bytes oc] bs Q := by
  refine Fn_def ok (D_marks ok) rfl (by rfl) ?_
  refine Ex_cons (Ex1_assign_mu (Ev_list (EvD_nil ⟨Nat.zero_le _, ?_⟩)) (by rfl) (by rfl))
  refine Ex_cons (Ex1_forS (α := Nat) (fun xs i => i ≤ oc.length ∧ xs = (upto i (oc.length - i)).map D.int) (fun i => [("marks", .mu ((allMarks oc w i).map markD)), ("finder", .val (.inst Cl fs)), ("text", .val (.bytes oc))]) (fun _ => bs) ?_ ?_ ?_ (by rfl) (by rfl))
  · refine Ev_range ok (by rfl) (by rfl) (by rfl) ?_
    refine EvD_cons (Ev_len ok (by rfl) (by rfl) (by rfl) (Ev_name (by rfl) (by rfl) (len_by (by lia) ?_))) (by rfl)
    refine EvD_nil (range_1 ⟨_, 0, ItOk_up (by lia) (by lia), ⟨Nat.zero_le _, by rw [show ((oc.length : Int) - 0).toNat = oc.length - 0 by lia]; rfl⟩, SubV.all (by rfl), rfl⟩)
  · intro x rest i ⟨i1, i2⟩ I fin
    have hi : i < oc.length := by
      have := congrArg List.length i2
      simp [upto_length] at this; (clear hz i1; omega)
    rw [show oc.length - i = (oc.length - (i + 1)) + 1 by lia, upto_succ, List.map_cons, List.cons.injEq] at i2
    obtain ⟨hx, hrest⟩ := i2
    subst hx
    refine ⟨_, rfl, ?_⟩
    have hlen := allMarks_len oc w i
    have hsucc : allMarks oc w (i + 1) = allMarks oc w i ++ (waysL oc w i).filterMap (markOf oc w i) := by
      unfold allMarks
      rw [List.range_succ, List.flatMap_append, List.flatMap_singleton]; rfl
    generalize allMarks oc w i = acc at hlen hsucc ⊢
    have hwm := fun d (hd : d ∈ waysL oc w i) => waysL_mem hd
    have hwl := waysL_len oc w i
    have hwe : waysL oc w i = [(waysTo oc w i (oc.length - i)).1, (waysTo oc w i (oc.length - i)).2].filter (decide <| 0 < ·) := rfl
    generalize waysL oc w i = W at hsucc hwm hwl hwe ⊢
    refine Ex_cons (Ex1_forS (α := Nat) (fun xs j => j ≤ W.length ∧ xs = (W.drop j).map fun d => D.int (d : Nat)) (fun j => [("marks", .mu ((acc ++ (W.take j).filterMap (markOf oc w i)).map markD)), ("place", .val (.int i)), ("finder", .val (.inst Cl fs)), ("text", .val (.bytes oc))]) (fun _ => bs) ?_ ?_ ?_ (by rfl) (by rfl))
    · refine Ev_compP [.int (waysTo oc w i (oc.length - i)).1, .int (waysTo oc w i (oc.length - i)).2] (gI fun d => if 0 < d then some (.int d) else none) ?_ ⟨fun d hd => ?_, by rfl, by rfl, by rfl, by rfl, by show 2 ≤ 16777215; decide⟩ (by rfl)
      · refine Ev_fun (f := 361) (n := n + 4) ok (by rfl) (by rfl) (by rfl) (by rfl) (Nat.le_refl _) (by rfl) ?_
        refine EvD_cons (Ev_name (by rfl) (by rfl) ?_) (by rfl)
        refine EvD_cons (Ev_name (by rfl) (by rfl) ?_) (by rfl)
        refine EvD_cons (Ev_name (by rfl) (by rfl) ?_) (by rfl)
        refine EvD_nil (ways_ok ok ho hz (by omega) ⟨ItOk_list, rfl, _, 0, ItOk_list, ⟨Nat.zero_le _, ?_⟩, SubV.cons ?_ (SubV.all (by rfl)), rfl⟩)
        · rw [hwe, List.drop_zero]
          generalize waysTo oc w i (oc.length - i) = s
          obtain ⟨s1, s2⟩ := s
          dsimp only
          rw [List.filterMap_cons, List.filterMap_cons, List.filterMap_nil, List.filter_cons, List.filter_cons, List.filter_nil]
          have e : ∀ a : Nat, gI (fun d => if 0 < d then some (D.int d) else none) (.int a) = if 0 < a then some (D.int a) else none := fun a => by
            show (if (0 : Int) < (a : Int) then _ else _) = _
            by_cases q : 0 < a
            · rw [if_pos q, if_pos (by lia)]
            · rw [if_neg q, if_neg (by lia)]
          rw [e, e]
          by_cases q1 : 0 < s1 <;> by_cases q2 : 0 < s2 <;> simp [q1, q2]
        · show _ = some (Slot.mu ((acc ++ []).map markD))
          rw [List.append_nil]; rfl
      · have hd : ∃ a : Nat, d = .int a := by
          simp only [List.mem_cons, List.not_mem_nil, or_false] at hd
          rcases hd with rfl | rfl <;> exact ⟨_, rfl⟩
        obtain ⟨a, rfl⟩ := hd
        refine ⟨_, rfl, TsL_cons (Ts_cmp (Ev_name (by rfl) (by rfl) ?_) (by rfl))⟩
        refine Ev_int (gt_i ?_)
        refine And.intro (fun q => TsL_nil (And.intro (fun _ => ?_) (fun q => nomatch q))) (fun q => And.intro (fun q => nomatch q) (fun _ => ⟨rfl, ?_⟩))
        · refine Ev_name (by rfl) (by rfl) ⟨rfl, ?_⟩
          show (if _ then _ else _) = _
          rw [if_pos (of_decide_eq_true q)]
        · show (if _ then _ else _) = _
          rw [if_neg (of_decide_eq_false q)]
    · intro x rest2 j ⟨j1, j2⟩ I2 fin2
      have hj : j < W.length := by
        have := congrArg List.length j2
        simp at this; lia
      rw [List.drop_eq_getElem_cons hj, List.map_cons, List.cons.injEq] at j2
      obtain ⟨hx, hrest2⟩ := j2
      subst hx
      refine ⟨_, rfl, ?_⟩
      have hd := hwm W[j] (List.getElem_mem _)
      have htk : (W.take (j + 1)).filterMap (markOf oc w i) = (W.take j).filterMap (markOf oc w i) ++ (markOf oc w i W[j]).toList := by
        rw [List.take_succ_eq_append_getElem hj, List.filterMap_append, List.filterMap_cons]
        cases markOf oc w i W[j] <;> rfl
      have hfl := List.length_filterMap_le (markOf oc w i) (W.take j)
      rw [List.length_take] at hfl
      generalize (W.take j).filterMap (markOf oc w i) = pre at htk hfl ⊢
      generalize W[j] = d at hd htk ⊢
      refine Ex_cons (Ex1_assign ?_ (by rfl) (by rfl))
      refine Ev_fun (f := 368) (n := n + 4) ok (by rfl) (by rfl) (by rfl) (by rfl) (Nat.le_refl _) (by rfl) ?_
      refine EvD_cons (Ev_name (by rfl) (by rfl) ?_) (by rfl)
      refine EvD_cons (Ev_name (by rfl) (by rfl) ?_) (by rfl)
      refine EvD_cons (Ev_name (by rfl) (by rfl) ?_) (by rfl)
      refine EvD_cons (Ev_len ok (by rfl) (by rfl) (by rfl) (Ev_name (by rfl) (by rfl) (len_by (by lia) ?_))) (by rfl)
      refine EvD_nil (about_ok ok ho hd.1 (by (clear hi; lia)) ?_)
      have hmo : markOf oc w i d = if 2 * d ≤ (aboutR oc w i d).2.2 - (aboutR oc w i d).2.1 then some (i, aboutR oc w i d) else none := rfl
      rw [hmo] at htk
      clear hmo
      have hle : (aboutR oc w i d).2.1 ≤ (aboutR oc w i d).2.2 := by
        show backF oc w d i ≤ endN oc w d (backF oc w d i)
        unfold endN; lia
      generalize aboutR oc w i d = r at htk hle ⊢
      obtain ⟨r1, r2, r3⟩ := r
      dsimp only at htk hle
      refine Ex_cons (Ex1_if (Ts_cmp (Ev_bin (Ev_sub (Ev_name (by rfl) (by rfl) ?_) (by rfl))) (by rfl)))
      refine Ev_int ⟨rfl, item_t (d := .int r3) (by decide) (by decide) (by rfl) ?_⟩
      refine Ev_sub (Ev_name (by rfl) (by rfl) ?_) (by rfl)
      refine Ev_int ⟨rfl, item_t (d := .int r2) (by decide) (by decide) (by rfl) (sub_i ?_)⟩
      refine Ev_bin (Ev_int ?_)
      refine Ev_name (by rfl) (by rfl) (mul_i (by (clear i1 hi hlen hfl hle; omega)) (ge_i ?_))
      refine And.intro (fun t => ?_) (fun t => ?_)
      · have := of_decide_eq_true t
        rw [if_pos (show 2 * d ≤ r3 - r2 by (clear hd htk t; lia))] at htk
        refine Ex_cons (Ex1_append (x := "marks") (by rfl) (by rfl) (by rw [List.length_map, List.length_append]; (clear hi hj; lia)) (by rfl) (Ev_tuple ?_) (by rfl) (fun env he => by unfold interactive; rw [he]; rfl))
        refine EvD_cons (Ev_name (by rfl) (by rfl) ?_) (by rfl)
        refine EvD_cons (Ev_name (by rfl) (by rfl) ?_) (by rfl)
        refine EvD_nil ⟨by show 2 ≤ 1000; decide, ?_⟩
        refine Ex_nil (Ex_nil (fin2 _ _ ⟨j + 1, ⟨hj, hrest2⟩, SubV.cons ?_ (SubV.all (by rfl)), rfl⟩))
        rw [htk, ← List.append_assoc, List.map_append (l₂ := Option.toList _)]; rfl
      · have := of_decide_eq_false t
        rw [if_neg (show ¬ 2 * d ≤ r3 - r2 by (clear t; lia))] at htk
        refine Ex_nil (Ex_nil (fin2 _ _ ⟨j + 1, ⟨hj, hrest2⟩, SubV.cons ?_ (SubV.all (by rfl)), rfl⟩))
        rw [htk, ← List.append_assoc, List.map_append (l₂ := Option.toList _)]
        show _ = some (Slot.mu (_ ++ []))
        rw [List.append_nil]; rfl
    · intro j ⟨j1, j2⟩
      have hj : j = W.length := by
        have := congrArg List.length j2
        simp at this; lia
      subst hj
      rw [List.take_length]
      exact Ex_nil (Ex_nil (fin _ _ ⟨i + 1, ⟨hi, hrest⟩, SubV.cons (by rw [hsucc]; rfl) (SubV.all (by rfl)), rfl⟩))
  · intro i ⟨i1, i2⟩
    have hi : i = oc.length := by
      have := congrArg List.length i2
      simp [upto_length] at this; (clear i2; lia)
    subst hi
    exact Ex_nil (Ex_cons (Ex1_ret (Ev_name_mu (by rfl) (by rfl) h)))
end
section
set_option maxRecDepth 100000
set_option maxHeartbeats 8000000
set_option linter.unusedVariables false
theorem D_mright {C : Cx} (ok : C.Ok) : DefAt C 378 ["marks", "told"] (bodyAt C.K 378) (scAt C.K 378) := by
  refine DefAt.of ok (by rfl) fun fd e vs hl s X => bindsN X fun S => ?_
  cases e
  obtain ⟨a, b, rfl⟩ := len2 hl
  rfl
theorem runD_inj {x y : Run} (h : runD x = runD y) : x = y := by
  obtain ⟨a, b, c⟩ := x
  obtain ⟨a', b', c'⟩ := y
  unfold runD at h
  injection h with h
  injection h with h1 h
  injection h with h2 h
  injection h with h3 h
  injection h1 with h1
  injection h2 with h2
  injection h3 with h3
  dsimp only at h1 h2 h3
  have e1 : a = a' := by lia
  have e2 : b = b' := by lia
  have e3 : c = c' := by lia
  rw [e1, e2, e3]
noncomputable def foundStep (acc : List Run) (m : Mark) : List Run := if m.2 ∈ acc then acc else acc ++ [m.2]
noncomputable def foundOf (ms : List Mark) : List Run := ms.foldl foundStep []
theorem found_spec (ms : List Mark) : ∀ acc : List Run, acc.Nodup → (ms.foldl foundStep acc).Nodup ∧ (∀ x, x ∈ ms.foldl foundStep acc ↔ x ∈ acc ∨ ∃ m ∈ ms, m.2 = x) ∧ (ms.foldl foundStep acc).length ≤ acc.length + ms.length := by
  induction ms with
  | nil => intro acc h; exact ⟨h, fun x => ⟨.inl, fun q => q.elim id fun ⟨_, q, _⟩ => nomatch q⟩, Nat.le_refl _⟩
  | cons m ms ih =>
    intro acc h
    rw [List.foldl_cons]
    unfold foundStep
    by_cases q : m.2 ∈ acc
    · rw [if_pos q]
      obtain ⟨a, b, c⟩ := ih acc h
      refine ⟨a, fun x => ?_, by rw [List.length_cons]; exact Nat.le_succ_of_le c⟩
      rw [show (List.foldl (fun acc m => if m.2 ∈ acc then acc else acc ++ [m.2]) acc ms) = ms.foldl foundStep acc from rfl, b x]
      exact ⟨fun r => r.imp_right fun ⟨m', h1, h2⟩ => ⟨m', .tail _ h1, h2⟩, fun r => r.elim .inl fun ⟨m', h1, h2⟩ => by
        rcases List.mem_cons.mp h1 with rfl | h1
        · exact .inl (h2 ▸ q)
        · exact .inr ⟨m', h1, h2⟩⟩
    · rw [if_neg q]
      obtain ⟨a, b, c⟩ := ih (acc ++ [m.2]) (by
        show List.Pairwise _ _
        rw [List.pairwise_append]
        exact ⟨h, List.pairwise_singleton _ _, fun a ha b hb e => q (by rw [List.mem_singleton.mp hb] at e; exact e ▸ ha)⟩)
      refine ⟨a, fun x => ?_, by rw [List.length_append, List.length_singleton] at c; rw [List.length_cons]; exact Nat.le_trans c (by lia)⟩
      rw [show (List.foldl (fun acc m => if m.2 ∈ acc then acc else acc ++ [m.2]) (acc ++ [m.2]) ms) = ms.foldl foundStep (acc ++ [m.2]) from rfl, b x, List.mem_append, List.mem_singleton, or_assoc]
      refine or_congr_right ?_
      constructor
      · rintro (e | ⟨m', h1, h2⟩)
        · exact ⟨m, .head _, e.symm⟩
        · exact ⟨m', .tail _ h1, h2⟩
      · rintro ⟨m', h1, h2⟩
        rcases List.mem_cons.mp h1 with rfl | h1
        · exact .inl h2.symm
        · exact .inr ⟨m', h1, h2⟩
noncomputable def behindOf (ms : List Mark) : List Mark := ms.filter fun m => decide (m.2.2.1 < m.1)
noncomputable def manyOf (ms : List Mark) (r : Run) : Nat := ((behindOf ms).filter fun m => decide (m.2 = r)).length
structure MarksOk (ms : List Mark) (T : List Run) : Prop where
  len : ms.length ≤ 100
  lenT : T.length ≤ 100
  ok : ∀ m ∈ ms, okT m.2
  few : (foundOf ms).length < 64
  sorted : ∀ M : List Run, M.Perm (foundOf ms) → M.Pairwise (fun x y => numT x < numT y) → M = T
  apart : (behindOf ms).length ≤ uniq ((behindOf ms).map fun m => (m.1 : Int))
  many : ∀ r ∈ T, (1 ≤ r.1 ∧ r.1 ≤ 100 ∧ r.2.1 ≤ r.2.2) ∧ (manyOf ms r = (r.2.2 - r.2.1) / r.1 ∨ manyOf ms r + 1 = (r.2.2 - r.2.1) / r.1)
theorem okN_run (x : Run) (n : Nat) : (runD x).okN (n + 2) = true := by
  obtain ⟨a, b, c⟩ := x
  rfl
theorem okN_runs (L : List Run) (n : Nat) : (D.list (L.map runD)).okN (n + 3) = true := by
  simp only [D.okN, List.all_eq_true, List.mem_map]
  rintro d ⟨x, _, rfl⟩
  exact okN_run x n
theorem all_runs (L : List Run) (n : Nat) : (L.map runD).all (D.okN (n + 2)) = true := by
  rw [List.all_eq_true]
  rintro d hd
  obtain ⟨x, _, rfl⟩ := List.mem_map.mp hd
  exact okN_run x n
/-- what a comprehension over marks keeps -/
noncomputable def gM (f : Nat → Run → Option D) : D → Option D
  | .tuple [.int p, .tuple [.int a, .int b, .int c]] => f p.toNat (a.toNat, b.toNat, c.toNat)
  | _ => none
theorem gM_mark (f : Nat → Run → Option D) (m : Mark) : gM f (markD m) = f m.1 m.2 := by
  obtain ⟨p, a, b, c⟩ := m
  show f (p : Int).toNat ((a : Int).toNat, (b : Int).toNat, (c : Int).toNat) = _
  rw [Int.toNat_natCast, Int.toNat_natCast, Int.toNat_natCast, Int.toNat_natCast]
theorem filterMap_gM (f : Nat → Run → Option D) (q : Mark → Bool) (g : Mark → D) (h : ∀ m, f m.1 m.2 = if q m = true then some (g m) else none) (L : List Mark) : (L.map markD).filterMap (gM f) = (L.filter q).map g := by
  induction L with
  | nil => rfl
  | cons m L ih =>
    rw [List.map_cons, List.filterMap_cons, gM_mark, h, List.filter_cons, ih]
    cases q m <;> rfl
theorem mright_ok {C : Cx} (ok : C.Ok) {n : Nat} {ms : List Mark} {T : List Run} {bs : BS} {Q : BS → R → Prop} (M : MarksOk ms T) (h : Q bs (.val (.bool true))) : Fn C (n + 1) (.ref 378) [.list (ms.map markD), .list (T.map runD)] bs Q := by
  refine Fn_def ok (D_mright ok) rfl (by rfl) ?_
  have hfs := fun k => found_spec (ms.take k) [] List.nodup_nil
  have hml := M.len
  refine Ex_cons (Ex1_assign_mu (Ev_list (EvD_nil ⟨Nat.zero_le _, ?_⟩)) (by rfl) (by rfl))
  refine Ex_cons (Ex1_forS (α := Nat) (fun xs j => j ≤ ms.length ∧ xs = (ms.drop j).map markD) (fun j => [("found", .mu ((foundOf (ms.take j)).map runD)), ("marks", .val (.list (ms.map markD))), ("told", .val (.list (T.map runD)))]) (fun _ => bs) ?_ ?_ ?_ (by rfl) (by rfl))
  · refine Ev_name (by rfl) (by rfl) ⟨_, 0, ItOk_list, ⟨Nat.zero_le _, rfl⟩, SubV.all (by rfl), rfl⟩
  · intro x rest j ⟨j1, j2⟩ I fin
    have hj : j < ms.length := by
      have := congrArg List.length j2
      simp at this; (clear hml j1; omega)
    rw [List.drop_eq_getElem_cons hj, List.map_cons, List.cons.injEq] at j2
    obtain ⟨hx, hrest⟩ := j2
    subst hx
    have hs : foundOf (ms.take (j + 1)) = foundStep (foundOf (ms.take j)) ms[j] := by
      unfold foundOf
      rw [List.take_succ_eq_append_getElem hj, List.foldl_append]; rfl
    have hl : (foundOf (ms.take j)).length ≤ 0 + (ms.take j).length := (hfs j).2.2
    rw [List.length_take] at hl
    generalize foundOf (ms.take j) = acc at hs hl ⊢
    generalize ms[j] = m at hs ⊢
    obtain ⟨q, r⟩ := m
    refine ⟨_, rfl, ?_⟩
    refine Ex_cons (Ex1_if (Ts_cmp (Ev_name (by rfl) (by rfl) ?_) (by rfl)))
    refine Ev_name_mu (by rfl) (by rfl) (notin_d (d := runD r) (ds := acc.map runD) (by rfl) (by rfl) (okN_run r _) (all_runs acc _) fun t ht => ?_)
    have e : t = true ↔ r ∉ acc := by
      rw [ht, List.mem_map]
      exact not_congr ⟨fun ⟨y, h1, h2⟩ => runD_inj h2 ▸ h1, fun h => ⟨_, h, rfl⟩⟩
    unfold foundStep at hs
    refine And.intro (fun t1 => ?_) (fun t0 => ?_)
    · rw [if_neg (e.mp t1)] at hs
      refine Ex_cons (Ex1_append (x := "found") (by rfl) (by rfl) (by rw [List.length_map]; (clear hj; lia)) (by rfl) (Ev_name (by rfl) (by rfl) ?_) (by rfl) (fun env he => by unfold interactive; rw [he]; rfl))
      refine Ex_nil (Ex_nil (fin _ _ ⟨j + 1, ⟨hj, hrest⟩, SubV.cons ?_ (SubV.all (by rfl)), rfl⟩))
      rw [hs, List.map_append]; rfl
    · rw [if_pos (Classical.byContradiction fun k => by rw [e.mpr k] at t0; cases t0)] at hs
      refine Ex_nil (Ex_nil (fin _ _ ⟨j + 1, ⟨hj, hrest⟩, SubV.cons ?_ (SubV.all (by rfl)), rfl⟩))
      rw [hs]; rfl
  intro j ⟨j1, j2⟩
  have hj : j = ms.length := by
    have := congrArg List.length j2
    simp at this; lia
  subst hj
  rw [List.take_length]
  obtain ⟨f1, f2, f3⟩ := found_spec ms [] List.nodup_nil
  refine Ex_nil (Ex_cons (Ex1_if (Ts_cmp ?_ (by rfl))))
  refine Ev_sorted ok (by rfl) (by rfl) (by rfl) (Ev_name_mu (by rfl) (by rfl) ?_)
  refine sorted_t (L := foundOf ms) (by rfl) (fun x hx => ?_) f1 M.few fun N n1 n2 => ?_
  · rcases (f2 x).mp hx with q | ⟨m, hm, rfl⟩
    · cases q
    · exact M.ok m hm
  rw [M.sorted N n1 n2]
  clear f1 f2 f3 hfs N n1 n2 j1 j2
  refine Ev_name (by rfl) (by rfl) ?_
  refine ne_d (d := .list (T.map runD)) (e := .list (T.map runD)) (by rfl) (by rfl) (okN_runs _ _) (okN_runs _ _) fun t ht => ?_
  refine And.intro (fun q => absurd rfl (ht.mp q)) (fun _ => Ex_nil ?_)
  refine Ex_cons (Ex1_assign_compP (ms.map markD) (gM fun p r => if decide (r.2.1 < p) = true then some (markD (p, r)) else none) ?_ ⟨fun d hd => ?_, by rfl, by rfl, by rfl, by rfl, by rw [List.length_map]; lia⟩ (by rfl) (by rfl))
  rotate_left
  · obtain ⟨⟨p, r1, r2, r3⟩, _, rfl⟩ := List.mem_map.mp hd
    refine ⟨_, rfl, TsL_cons (Ts_cmp (Ev_sub (Ev_name (by rfl) (by rfl) ?_) (by rfl)) (by rfl))⟩
    refine Ev_int ⟨rfl, item_t (d := .int r2) (by decide) (by decide) (by rfl) ?_⟩
    refine Ev_name (by rfl) (by rfl) (lt_i ?_)
    refine And.intro (fun q => TsL_nil (And.intro (fun _ => ?_) (fun q => nomatch q))) (fun q => And.intro (fun q => nomatch q) (fun _ => ⟨rfl, ?_⟩))
    · refine Ev_tuple (EvD_cons (Ev_name (by rfl) (by rfl) ?_) (by rfl))
      refine EvD_cons (Ev_name (by rfl) (by rfl) ?_) (by rfl)
      refine EvD_nil ⟨by show 2 ≤ 1000; decide, rfl, ?_⟩
      rw [gM_mark, if_pos (decide_eq_true (by have := of_decide_eq_true q; dsimp only; (clear q; lia)))]; rfl
    · rw [gM_mark, if_neg (by have := of_decide_eq_false q; simp only [decide_eq_true_eq]; (clear q; lia))]
  refine Ev_name (by rfl) (by rfl) ⟨ItOk_list, rfl, ?_⟩
  rw [filterMap_gM _ (fun m => decide (m.2.2.1 < m.1)) markD (fun m => rfl)]
  refine Ex_freeze "behind" (ds := (behindOf ms).map markD) (by rfl) ?_
  have hB : (behindOf ms).length ≤ ms.length := List.length_filter_le _ _
  have hap := M.apart
  have hmany := M.many
  unfold manyOf at hmany
  have hTl := M.lenT
  clear M
  generalize behindOf ms = B at hB hap hmany ⊢
  refine Ex_cons (Ex1_if (Ts_cmp ?_ (by rfl)))
  refine Ev_lenset ok (mg_of ok (by rfl)) (mg_of ok (by rfl)) (by rfl) (by rfl) (by rfl) ?_
  refine Ev_compP (B.map markD) (gM fun p r => some (.int p)) ?_ ⟨fun d hd => ?_, by rfl, by rfl, by rfl, by rfl, by rw [List.length_map]; lia⟩ (by rfl)
  rotate_left
  · obtain ⟨⟨p, r1, r2, r3⟩, _, rfl⟩ := List.mem_map.mp hd
    refine ⟨_, rfl, TsL_nil (And.intro (fun _ => ?_) (fun t => nomatch t))⟩
    exact Ev_name (by rfl) (by rfl) ⟨rfl, gM_mark _ _⟩
  refine Ev_name (by rfl) (by rfl) ⟨ItOk_list, rfl, B.map fun m => (m.1 : Int), ?_, by rw [List.length_map]; lia, ?_⟩
  · rw [filterMap_gM _ (fun _ => true) (fun m => .int m.1) (fun m => rfl), List.filter_eq_self.mpr (fun _ _ => rfl), List.map_map]; rfl
  refine Ev_len ok (by rfl) (by rfl) (by rfl) (Ev_name (by rfl) (by rfl) (len_l (ds := B.map markD) (by rfl) (by rw [List.length_map]; lia) ?_))
  rw [List.length_map]
  refine lt_i ?_
  refine And.intro (fun t => absurd (of_decide_eq_true t) (by (clear t; lia))) (fun _ => Ex_nil ?_)
  refine Ex_cons (Ex1_forS (α := Nat) (fun xs j => j ≤ T.length ∧ xs = (T.drop j).map runD) (fun _ => [("behind", .val (.list (B.map markD)))]) (fun _ => bs) ?_ ?_ ?_ (by rfl) (by rfl))
  · refine Ev_name (by rfl) (by rfl) ⟨_, 0, ItOk_list, ⟨Nat.zero_le _, rfl⟩, SubV.all (by rfl), rfl⟩
  · intro x rest j ⟨j1, j2⟩ I fin
    have hj : j < T.length := by
      have := congrArg List.length j2
      simp at this; (clear hml hTl hB hap j1; omega)
    rw [List.drop_eq_getElem_cons hj, List.map_cons, List.cons.injEq] at j2
    obtain ⟨hx, hrest⟩ := j2
    subst hx
    have hr := hmany T[j] (List.getElem_mem _)
    generalize T[j] = r at hr ⊢
    refine ⟨_, rfl, ?_⟩
    refine Ex_cons (Ex1_assign_tup (xs := ["whole", "many"]) (by rfl) (by first | (left; rfl) | (right; rfl)) (by rfl) (by decide) ?_)
    refine EvL_cons (Ev_bin (Ev_bin (Ev_sub (Ev_name (by rfl) (by rfl) ?_) (by rfl)))) (by rfl)
    refine Ev_int ⟨rfl, item_t (d := .int r.2.2) (by decide) (by decide) (by rfl) ?_⟩
    refine Ev_sub (Ev_name (by rfl) (by rfl) ?_) (by rfl)
    refine Ev_int ⟨rfl, item_t (d := .int r.2.1) (by decide) (by decide) (by rfl) (sub_i ?_)⟩
    refine Ev_sub (Ev_name (by rfl) (by rfl) ?_) (by rfl)
    refine Ev_int ⟨rfl, item_t (d := .int r.1) (by decide) (by decide) (by rfl) (div_i (by lia) (by (clear hml hB hap; omega)) ?_)⟩
    rw [show ((r.2.2 : Int) - (r.2.1 : Int)) = ((r.2.2 - r.2.1 : Nat) : Int) by (clear hml hB hap; omega), show (((r.2.2 - r.2.1 : Nat) : Int)).fdiv (r.1 : Int) = (((r.2.2 - r.2.1) / r.1 : Nat) : Int) by rw [Int.fdiv_eq_ediv_of_nonneg _ (by (clear hr; lia))]; rfl]
    refine EvL_cons (Ev_len ok (by rfl) (by rfl) (by rfl) ?_) (by rfl)
    refine Ev_compP (B.map markD) (gM fun p x => if decide (x = r) = true then some (.int p) else none) ?_ ⟨fun d hd => ?_, by rfl, by rfl, by rfl, by rfl, by rw [List.length_map]; lia⟩ (by rfl)
    rotate_left
    · obtain ⟨⟨p, x⟩, _, rfl⟩ := List.mem_map.mp hd
      refine ⟨_, rfl, TsL_cons (Ts_cmp (Ev_name (by rfl) (by rfl) ?_) (by rfl))⟩
      refine Ev_name (by rfl) (by rfl) (eq_d (d := runD x) (e := runD r) (by rfl) (by rfl) (okN_run _ _) (okN_run _ _) fun t ht => ?_)
      have e : t = true ↔ x = r := ht.trans ⟨runD_inj, fun e => e ▸ rfl⟩
      refine And.intro (fun q => TsL_nil (And.intro (fun _ => ?_) (fun q => nomatch q))) (fun q => And.intro (fun q => nomatch q) (fun _ => ⟨rfl, ?_⟩))
      · refine Ev_name (by rfl) (by rfl) ⟨rfl, ?_⟩
        rw [gM_mark, if_pos (decide_eq_true (e.mp q))]
      · rw [gM_mark, if_neg (fun k => by rw [e.mpr (of_decide_eq_true k)] at q; cases q)]
    refine Ev_name (by rfl) (by rfl) ⟨ItOk_list, rfl, ?_⟩
    rw [filterMap_gM _ (fun m => decide (m.2 = r)) (fun m => .int m.1) (fun m => rfl)]
    have hF : (B.filter fun m => decide (m.2 = r)).length ≤ B.length := List.length_filter_le _ _
    generalize B.filter (fun m => decide (m.2 = r)) = F at hr hF ⊢
    refine len_l (ds := F.map fun m => .int m.1) (by rfl) (by rw [List.length_map]; lia) ?_
    rw [List.length_map]
    refine EvL_nil ⟨_, rfl, by show 2 ≤ 1000; decide, ?_⟩
    have hr2 := hr.2
    generalize (r.2.2 - r.2.1) / r.1 = wh at hr2 ⊢
    refine Ex_cons (Ex1_if (Ts_boolop (TsA_and (Ts_cmp (Ev_name (by rfl) (by rfl) ?_) (by rfl)))))
    refine Ev_name (by rfl) (by rfl) (ne_i ?_)
    refine And.intro (fun t => ?_) (fun t => And.intro (fun q => nomatch q) (fun _ => Ex_nil (Ex_nil (fin _ _ ⟨j + 1, ⟨hj, hrest⟩, SubV.all (by rfl), rfl⟩))))
    refine TsA_and (Ts_cmp (Ev_name (by rfl) (by rfl) ?_) (by rfl))
    refine Ev_bin (Ev_name (by rfl) (by rfl) ?_)
    refine Ev_int (sub_i (ne_i ?_))
    refine And.intro (fun t2 => absurd (of_decide_eq_true t2) (by have := of_decide_eq_true t; (clear hr t t2; lia))) (fun t2 => And.intro (fun q => nomatch q) (fun _ => Ex_nil (Ex_nil (fin _ _ ⟨j + 1, ⟨hj, hrest⟩, SubV.all (by rfl), rfl⟩))))
  · intro j _
    exact Ex_nil (Ex_cons (Ex1_ret (Ev_bool h)))
end
section
set_option maxRecDepth 100000
set_option maxHeartbeats 8000000
set_option linter.unusedVariables false
theorem D_own {C : Cx} (ok : C.Ok) : DefAt C 383 ["text"] (bodyAt C.K 383) (scAt C.K 383) := by
  refine DefAt.of ok (by rfl) fun fd e vs hl s X => bindsN X fun S => ?_
  cases e
  obtain ⟨a, rfl⟩ := len1 hl
  rfl
noncomputable def perAt (oc : List Int) (b e : Nat) (far : Int) : Bool := decide ((oc.drop b).take (e - b - far.toNat) = (oc.drop (b + far.toNat)).take (e - b - far.toNat))
noncomputable def persOf (oc : List Int) (b e : Nat) : List Int := (upto 1 ((e - b) / 2)).filter (perAt oc b e)
noncomputable def goesB (oc : List Int) (b f : Nat) : Bool := decide (0 < b) && decide (oc.getD (b - 1) 0 = oc.getD (b + f - 1) 0)
noncomputable def endsB (oc : List Int) (e f : Nat) : Bool := decide (e = oc.length) || decide (oc.getD e 0 ≠ oc.getD (e - f) 0)
noncomputable def ownOf (oc : List Int) (b e : Nat) : List Int → Option Run
  | [] => none
  | far :: _ => if (!goesB oc b far.toNat && endsB oc e far.toNat) = true then some (far.toNat, b, e) else none
noncomputable def ownAt (oc : List Int) (b e : Nat) : Option Run := ownOf oc b e (persOf oc b e)
noncomputable def ownTo (oc : List Int) (b k : Nat) : List Run := (List.range k).filterMap fun j => ownAt oc b (b + 2 + j)
noncomputable def ownAll (oc : List Int) (i : Nat) : List Run := (List.range i).flatMap fun b => ownTo oc b (oc.length - 1 - b)
theorem ownTo_len (oc : List Int) (b k : Nat) : (ownTo oc b k).length ≤ k := by
  have := List.length_filterMap_le (fun j => ownAt oc b (b + 2 + j)) (List.range k)
  rw [List.length_range] at this; exact this
theorem ownTo_succ (oc : List Int) (b k : Nat) : ownTo oc b (k + 1) = ownTo oc b k ++ (ownAt oc b (b + 2 + k)).toList := by
  unfold ownTo
  rw [List.range_succ, List.filterMap_append, List.filterMap_cons]
  cases ownAt oc b (b + 2 + k) <;> rfl
theorem ownAll_succ (oc : List Int) (i : Nat) : ownAll oc (i + 1) = ownAll oc i ++ ownTo oc i (oc.length - 1 - i) := by
  unfold ownAll
  rw [List.range_succ, List.flatMap_append, List.flatMap_singleton]
theorem ownAll_len (oc : List Int) : ∀ i, (ownAll oc i).length ≤ i * oc.length
  | 0 => Nat.zero_le _
  | i + 1 => by
    have e := Nat.add_one_mul i oc.length
    have h1 := ownAll_len oc i
    have h2 := ownTo_len oc i (oc.length - 1 - i)
    rw [ownAll_succ, List.length_append]
    omega
theorem own_ok {C : Cx} (ok : C.Ok) {n : Nat} {oc : List Int} {bs : BS} {Q : BS → R → Prop} (hz : oc.length ≤ 16) (hz2 : 2 ≤ oc.length) (hok : ∀ x ∈ ownAll oc (oc.length - 1), okT x) (hn : (ownAll oc (oc.length - 1)).Nodup) (h64 : (ownAll oc (oc.length - 1)).length < 64)
    (h : ∀ M : List Run, M.Perm (ownAll oc (oc.length - 1)) → M.Pairwise (fun x y => numT x < numT y) → Q bs (.own (M.map runD))) : Fn C (n + 1) (.ref 383) [.bytes oc] bs Q := by
  refine Fn_def ok (D_own ok) rfl (by rfl) ?_
  have gi : ∀ i, i < oc.length → oc[i]? = some (oc.getD i 0) := fun i hi => by rw [List.getD_eq_getElem?_getD, List.getElem?_eq_getElem hi]; rfl
  refine Ex_cons (Ex1_assign_tup (xs := ["size", "found"]) (by rfl) (by first | (left; rfl) | (right; rfl)) (by rfl) (by decide) ?_)
  refine EvL_cons (Ev_len ok (by rfl) (by rfl) (by rfl) (Ev_name (by rfl) (by rfl) (len_by (by lia) ?_))) (by rfl)
  refine EvL_cons (Ev_list (EvD_nil ⟨Nat.zero_le _, ?_⟩)) (by rfl)
  refine EvL_nil ⟨_, rfl, by show 2 ≤ 1000; decide, ?_⟩
  refine Ex_cons (Ex1_forS (α := Nat) (fun xs b => b ≤ oc.length - 1 ∧ xs = (upto b (oc.length - 1 - b)).map D.int) (fun b => [("found", .mu ((ownAll oc b).map runD)), ("size", .val (.int oc.length)), ("text", .val (.bytes oc))]) (fun _ => bs) ?_ ?_ ?_ (by rfl) (by rfl))
  · refine Ev_range ok (by rfl) (by rfl) (by rfl) ?_
    refine EvD_cons (Ev_bin (Ev_name (by rfl) (by rfl) ?_)) (by rfl)
    refine Ev_int (sub_i ?_)
    refine EvD_nil (range_1 ⟨_, 0, ItOk_up (by lia) (by (clear hz2; lia)), ⟨Nat.zero_le _, by rw [show ((oc.length : Int) - 1 - 0).toNat = oc.length - 1 - 0 by lia]; rfl⟩, SubV.all (by rfl), rfl⟩)
  · intro x rest b ⟨i1, i2⟩ I fin
    have hb : b < oc.length - 1 := by
      have := congrArg List.length i2
      simp [upto_length] at this; (clear hz hz2 h64 i1; omega)
    rw [show oc.length - 1 - b = (oc.length - 1 - (b + 1)) + 1 by lia, upto_succ, List.map_cons, List.cons.injEq] at i2
    obtain ⟨hx, hrest⟩ := i2
    subst hx
    refine ⟨_, rfl, ?_⟩
    have hlen := ownAll_len oc b
    have hlen2 : b * oc.length ≤ 16 * 16 := Nat.mul_le_mul (by (clear hb hrest; lia)) hz
    have hsucc := ownAll_succ oc b
    generalize ownAll oc b = acc at hlen hsucc ⊢
    refine Ex_cons (Ex1_forS (α := Nat) (fun xs k => k ≤ oc.length - 1 - b ∧ xs = (upto ((b + 2 + k : Nat) : Int) (oc.length - 1 - b - k)).map D.int) (fun k => [("found", .mu ((acc ++ ownTo oc b k).map runD)), ("begin", .val (.int b)), ("size", .val (.int oc.length)), ("text", .val (.bytes oc))]) (fun _ => bs) ?_ ?_ ?_ (by rfl) (by rfl))
    · refine Ev_range ok (by rfl) (by rfl) (by rfl) ?_
      refine EvD_cons (Ev_bin (Ev_name (by rfl) (by rfl) ?_)) (by rfl)
      refine Ev_int (add_i ?_)
      refine EvD_cons (Ev_bin (Ev_name (by rfl) (by rfl) ?_)) (by rfl)
      refine Ev_int (add_i ?_)
      refine EvD_nil (range_2 ⟨_, 0, ItOk_up (by (clear hb hrest hsucc; lia)) (by (clear hz2; lia)), ⟨Nat.zero_le _, ?_⟩, SubV.cons ?_ (SubV.all (by rfl)), rfl⟩)
      · rw [show ((oc.length : Int) + 1 - ((b : Int) + 2)).toNat = oc.length - 1 - b - 0 by (clear h64 hlen2 hlen; omega)]; rfl
      · show _ = some (Slot.mu ((acc ++ []).map runD))
        rw [List.append_nil]; rfl
    · intro x rest2 k ⟨j1, j2⟩ I2 fin2
      have hk : k < oc.length - 1 - b := by
        have := congrArg List.length j2
        simp [upto_length] at this; (clear h64 hlen2 hlen j1; omega)
      rw [show oc.length - 1 - b - k = (oc.length - 1 - b - (k + 1)) + 1 by lia, upto_succ, List.map_cons, List.cons.injEq, show (((b + 2 + k : Nat) : Int) + 1) = ((b + 2 + (k + 1) : Nat) : Int) by lia] at j2
      obtain ⟨hx, hrest2⟩ := j2
      subst hx
      refine ⟨_, rfl, ?_⟩
      have hrow := ownTo_succ oc b k
      have hrl := ownTo_len oc b k
      generalize ownTo oc b k = row at hrow hrl ⊢
      have ends : ∀ v : Vars, SubV [("begin", .val (.int b)), ("size", .val (.int oc.length)), ("text", .val (.bytes oc))] v → v.lookup ("found" : Str) = some (.mu ((acc ++ ownTo oc b (k + 1)).map runD)) → I2 v bs := fun v v1 v2 => fin2 _ _ ⟨k + 1, ⟨hk, hrest2⟩, SubV.cons v2 v1, rfl⟩
      rw [hrow] at ends
      clear fin2 fin hrow hrest2
      have he : b + 2 ≤ b + 2 + k ∧ b + 2 + k ≤ oc.length := by (clear h64 hlen2 hlen hrl; omega)
      generalize b + 2 + k = e at he ends ⊢
      unfold ownAt at ends
      refine Ex_cons (Ex1_assign_compR 1 ((e - b) / 2) (fun far => if perAt oc b e far = true then some (.int far) else none) (by decide) (by lia) ?_ (fun far f0 f1 => ?_) (by rfl) (by rfl) (by rfl) (by rfl) (by rfl) (by rfl))
      rotate_left
      · obtain ⟨f, rfl⟩ := Int.eq_ofNat_of_zero_le (show 0 ≤ far by lia)
        refine TsL_cons (Ts_cmp (Ev_slice (Ev_name (by rfl) (by rfl) ?_)) (by rfl))
        refine EvP_some (Ev_name (by rfl) (by rfl) ?_)
        refine EvP_some (Ev_bin (Ev_name (by rfl) (by rfl) ?_))
        refine Ev_name (by rfl) (by rfl) (sub_i ?_)
        refine And.intro (by show oc.length ≤ _; lia) ?_
        rw [show ((e : Int) - (f : Int)) = (b : Int) + ((e - b - f : Nat) : Int) by (clear f0; lia), cut_both (by lia) (by lia) (by (clear hz h64 hlen2 hlen hrl f0 f1; omega))]
        refine Ev_slice (Ev_name (by rfl) (by rfl) ?_)
        refine EvP_some (Ev_bin (Ev_name (by rfl) (by rfl) ?_))
        refine Ev_name (by rfl) (by rfl) (add_i ?_)
        refine EvP_some (Ev_name (by rfl) (by rfl) ?_)
        refine And.intro (by show oc.length ≤ _; lia) ?_
        rw [show (cut (some ((b : Int) + (f : Int))) (some (e : Int)) oc) = cut (some ((b + f : Nat) : Int)) (some (((b + f : Nat) : Int) + ((e - b - f : Nat) : Int))) oc by congr 2 <;> (clear f0; lia), cut_both (by (clear f0; lia)) (by lia) (by lia)]
        rw [Int.toNat_natCast, Int.toNat_natCast, Int.toNat_natCast]
        refine eq_by fun t ht => ?_
        have ef : t = perAt oc b e f := by
          rw [Bool.eq_iff_iff, ht]
          unfold perAt
          rw [decide_eq_true_iff, Int.toNat_natCast]
        refine And.intro (fun q => TsL_nil (And.intro (fun _ => ?_) (fun q => nomatch q))) (fun q => And.intro (fun q => nomatch q) (fun _ => ?_))
        · refine Ev_name (by rfl) (by rfl) ⟨rfl, ?_⟩
          rw [if_pos (ef ▸ q)]
        · refine ⟨rfl, ?_⟩
          rw [← ef, q]; rfl
      refine Ev_range ok (by rfl) (by rfl) (by rfl) (EvD_cons (Ev_int ?_) (by rfl))
      refine EvD_cons (Ev_bin (Ev_bin (Ev_bin (Ev_name (by rfl) (by rfl) ?_)))) (by rfl)
      refine Ev_name (by rfl) (by rfl) (sub_i ?_)
      refine Ev_int (div_i (by decide) (by decide) ?_)
      rw [show ((e : Int) - (b : Int)).fdiv 2 = (((e - b) / 2 : Nat) : Int) by rw [Int.fdiv_eq_ediv_of_nonneg _ (by decide)]; lia]
      refine Ev_int (add_i ?_)
      refine EvD_nil (range_2 ⟨⟨_, rfl, by lia, by lia, by (clear he; lia)⟩, rfl, ?_⟩)
      rw [filter_gI]
      have hps : ∀ x ∈ (upto 1 ((e - b) / 2)).filter (perAt oc b e), 1 ≤ x ∧ x ≤ ((e - b) / 2 : Nat) := fun x hx => by
        have := mem_upto.mp (List.mem_filter.mp hx).1; (clear he; lia)
      unfold persOf at ends
      generalize (upto 1 ((e - b) / 2)).filter (perAt oc b e) = ps at hps ends ⊢
      refine Ex_cons (Ex1_if (Ts_cmp (Ev_name_mu (by rfl) (by rfl) ?_) (by rfl)))
      refine Ev_list (EvD_nil ⟨Nat.zero_le _, ?_⟩)
      refine ne_d (d := .list (ps.map D.int)) (e := .list []) (by rfl) (by rfl) (okN_ints _ _) (by rfl) fun t ht => ?_
      cases ps with
      | nil =>
        refine And.intro (fun q => absurd rfl (ht.mp q)) (fun _ => Ex_nil (Ex_nil (ends _ (SubV.all (by rfl)) ?_)))
        show _ = some (Slot.mu ((acc ++ (row ++ [])).map runD))
        rw [List.append_nil]; rfl
      | cons far ps =>
        obtain ⟨f0, f1⟩ := hps far (.head _)
        obtain ⟨f, rfl⟩ := Int.eq_ofNat_of_zero_le (show 0 ≤ far by lia)
        clear hps
        have ends : ∀ v : Vars, SubV [("begin", .val (.int b)), ("size", .val (.int oc.length)), ("text", .val (.bytes oc))] v → v.lookup ("found" : Str) = some (.mu ((acc ++ (row ++ (if (!goesB oc b f && endsB oc e f) = true then some (f, b, e) else none).toList)).map runD)) → I2 v bs := ends
        refine And.intro (fun _ => ?_) (fun q => absurd (ht.mpr (fun k => nomatch k)) (by rw [q]; decide))
        refine Ex_cons (Ex1_assign (Ev_sub (Ev_name_mu (by rfl) (by rfl) ?_) (by rfl)) (by rfl) (by rfl))
        refine Ev_int ⟨rfl, item_l (d := .int f) (ds := (((f : Int) :: ps).map D.int)) (by rfl) (by decide) (by decide) (by rfl) ?_⟩
        refine Ex_cut (α := Bool) (fun t => t = goesB oc b f) (fun t => [("ahead", .val (.bool t)), ("far", .val (.int f)), ("end", .val (.int e)), ("found", .mu ((acc ++ row).map runD)), ("begin", .val (.int b)), ("size", .val (.int oc.length)), ("text", .val (.bytes oc))]) (fun _ => bs) ?_ fun t2 ht2 => ?_
        · intro I3 fin3
          refine Ex1_assign (Ev_and (Ev_cmp (Ev_name (by rfl) (by rfl) ?_) (by rfl))) (by rfl) (by rfl)
          refine Ev_int (gt_i ?_)
          refine And.intro (fun q => ?_) (fun q => fin3 _ _ ⟨false, ?_, SubV.all (by rfl), rfl⟩)
          · have hq := of_decide_eq_true q
            refine Ev_cmp (Ev_sub (Ev_name (by rfl) (by rfl) ?_) (by rfl)) (by rfl)
            refine Ev_bin (Ev_name (by rfl) (by rfl) ?_)
            refine Ev_int (sub_i ⟨rfl, item_by (c := oc.getD (b - 1) 0) (by (clear q; lia)) (by lia) (by rw [show ((b : Int) - 1).toNat = b - 1 by (clear q; lia)]; exact gi _ (by (clear q; lia))) ?_⟩)
            refine Ev_sub (Ev_name (by rfl) (by rfl) ?_) (by rfl)
            refine Ev_bin (Ev_bin (Ev_name (by rfl) (by rfl) ?_))
            refine Ev_name (by rfl) (by rfl) (add_i (Ev_int (sub_i ⟨rfl, item_by (c := oc.getD (b + f - 1) 0) (by lia) (by lia) (by rw [show ((b : Int) + (f : Int) - 1).toNat = b + f - 1 by (clear q; lia)]; exact gi _ (by (clear q; lia))) (eq_i ?_)⟩)))
            refine fin3 _ _ ⟨decide (oc.getD (b - 1) 0 = oc.getD (b + f - 1) 0), ?_, SubV.all (by rfl), rfl⟩
            unfold goesB
            rw [decide_eq_true (show 0 < b by (clear q; lia)), Bool.true_and]
          · unfold goesB
            rw [decide_eq_false (by have := of_decide_eq_false q; (clear q; lia)), Bool.false_and]
        rw [← ht2] at ends
        clear ht2
        refine Ex_cons (Ex1_if (Ts_boolop (TsA_and (Ts_not (Ts_val (Ev_name (by rfl) (by rfl) ?_) (fun _ _ => rfl))))))
        cases t2 with
        | true =>
          refine And.intro (fun q => nomatch q) (fun _ => And.intro (fun q => nomatch q) (fun _ => Ex_nil (Ex_nil (Ex_nil (ends _ (SubV.all (by rfl)) ?_)))))
          show _ = some (Slot.mu ((acc ++ (row ++ [])).map runD))
          rw [List.append_nil]; rfl
        | false =>
          refine And.intro (fun _ => ?_) (fun q => nomatch q)
          refine TsA_and (Ts_boolop (TsA_or (Ts_cmp (Ev_name (by rfl) (by rfl) ?_) (by rfl))))
          refine Ev_name (by rfl) (by rfl) (eq_i ?_)
          refine And.intro (fun q => And.intro (fun _ => TsA_and_nil (And.intro (fun _ => ?_) (fun q => nomatch q))) (fun q => nomatch q)) (fun q => ?_)
          · have hE : endsB oc e f = true := by
              unfold endsB
              rw [decide_eq_true (show e = oc.length by have := of_decide_eq_true q; (clear q; lia))]; rfl
            refine Ex_cons (Ex1_append (x := "found") (by rfl) (by rfl) (by rw [List.length_map, List.length_append]; (clear hz2 h64 hk he f0 f1; omega)) (by rfl) (Ev_tuple ?_) (by rfl) (fun env he => by unfold interactive; rw [he]; rfl))
            refine EvD_cons (Ev_name (by rfl) (by rfl) ?_) (by rfl)
            refine EvD_cons (Ev_name (by rfl) (by rfl) ?_) (by rfl)
            refine EvD_cons (Ev_name (by rfl) (by rfl) ?_) (by rfl)
            refine EvD_nil ⟨by show 3 ≤ 1000; decide, ?_⟩
            refine Ex_nil (Ex_nil (Ex_nil (ends _ (SubV.all (by rfl)) ?_)))
            rw [hE, if_pos (by rfl), ← List.append_assoc, List.map_append (l₂ := Option.toList _)]; rfl
          have hq := of_decide_eq_false q
          refine TsA_or (Ts_cmp (Ev_sub (Ev_name (by rfl) (by rfl) ?_) (by rfl)) (by rfl))
          refine Ev_name (by rfl) (by rfl) ⟨rfl, item_by (c := oc.getD e 0) (by (clear he; lia)) (by lia) (by exact gi e (by (clear q; lia))) ?_⟩
          refine Ev_sub (Ev_name (by rfl) (by rfl) ?_) (by rfl)
          refine Ev_bin (Ev_name (by rfl) (by rfl) ?_)
          refine Ev_name (by rfl) (by rfl) (sub_i ⟨rfl, item_by (c := oc.getD (e - f) 0) (by (clear hrest f0; lia)) (by lia) (by rw [show ((e : Int) - (f : Int)).toNat = e - f by (clear he; lia)]; exact gi _ (by (clear hz h64 hlen2 hlen hrl f1; omega))) (ne_i ?_)⟩)
          have hE2 : endsB oc e f = decide (oc.getD e 0 ≠ oc.getD (e - f) 0) := by
            unfold endsB
            rw [decide_eq_false (show ¬ e = oc.length by (clear he q; lia)), Bool.false_or]
          refine And.intro (fun q2 => And.intro (fun _ => TsA_and_nil (And.intro (fun _ => ?_) (fun q => nomatch q))) (fun q => nomatch q)) (fun q2 => TsA_or_nil (And.intro (fun q => nomatch q) (fun _ => And.intro (fun q => nomatch q) (fun _ => Ex_nil (Ex_nil (Ex_nil (ends _ (SubV.all (by rfl)) ?_)))))))
          · have hE := hE2.trans q2
            refine Ex_cons (Ex1_append (x := "found") (by rfl) (by rfl) (by rw [List.length_map, List.length_append]; (clear hk; lia)) (by rfl) (Ev_tuple ?_) (by rfl) (fun env he => by unfold interactive; rw [he]; rfl))
            refine EvD_cons (Ev_name (by rfl) (by rfl) ?_) (by rfl)
            refine EvD_cons (Ev_name (by rfl) (by rfl) ?_) (by rfl)
            refine EvD_cons (Ev_name (by rfl) (by rfl) ?_) (by rfl)
            refine EvD_nil ⟨by show 3 ≤ 1000; decide, ?_⟩
            refine Ex_nil (Ex_nil (Ex_nil (ends _ (SubV.all (by rfl)) ?_)))
            rw [hE, if_pos (by rfl), ← List.append_assoc, List.map_append (l₂ := Option.toList _)]; rfl
          · rw [hE2, q2]
            show _ = some (Slot.mu ((acc ++ (row ++ [])).map runD))
            rw [List.append_nil]; rfl
    · intro k ⟨j1, j2⟩
      have hk : k = oc.length - 1 - b := by
        have := congrArg List.length j2
        simp [upto_length] at this; (clear h64 hlen2 hlen; omega)
      subst hk
      exact Ex_nil (Ex_nil (fin _ _ ⟨b + 1, ⟨hb, hrest⟩, SubV.cons (by rw [hsucc]; rfl) (SubV.all (by rfl)), rfl⟩))
  · intro b ⟨i1, i2⟩
    have hb : b = oc.length - 1 := by
      have := congrArg List.length i2
      simp [upto_length] at this; (clear hz hz2 h64; omega)
    subst hb
    refine Ex_nil (Ex_cons (Ex1_ret ?_))
    refine Ev_sorted ok (by rfl) (by rfl) (by rfl) (Ev_name_mu (by rfl) (by rfl) ?_)
    exact sorted_t (L := ownAll oc (oc.length - 1)) (by rfl) hok hn h64 h
end
section
set_option maxRecDepth 100000
set_option maxHeartbeats 8000000
set_option linter.unusedVariables false
theorem D_law {C : Cx} (ok : C.Ok) : DefAt C 388 ["script"] (bodyAt C.K 388) (scAt C.K 388) := by
  refine DefAt.of ok (by rfl) fun fd e vs hl s X => bindsN X fun S => ?_
  cases e
  obtain ⟨a, rfl⟩ := len1 hl
  rfl
structure Math01 (oc : List Int) (w : Nat) : Prop where
  few : (allRuns oc w (oc.length / 2 + 1)).length < oc.length
  ok : ∀ r ∈ allRuns oc w (oc.length / 2 + 1), 1 ≤ r.1 ∧ r.1 ≤ 100
  sum : ((allRuns oc w (oc.length / 2 + 1)).map fun r => ((r.2.2 : Int) - r.2.1) * (840 / (r.1 : Int))).sum ≤ 2520 * ((oc.length : Int) - 1)
  apart : ∀ i j, j < i → i < (allRuns oc w (oc.length / 2 + 1)).length → min ((allRuns oc w (oc.length / 2 + 1)).getD i (0, 0, 0)).2.2 ((allRuns oc w (oc.length / 2 + 1)).getD j (0, 0, 0)).2.2 + Nat.gcd ((allRuns oc w (oc.length / 2 + 1)).getD i (0, 0, 0)).1 ((allRuns oc w (oc.length / 2 + 1)).getD j (0, 0, 0)).1 < max ((allRuns oc w (oc.length / 2 + 1)).getD i (0, 0, 0)).2.1 ((allRuns oc w (oc.length / 2 + 1)).getD j (0, 0, 0)).2.1 + ((allRuns oc w (oc.length / 2 + 1)).getD i (0, 0, 0)).1 + ((allRuns oc w (oc.length / 2 + 1)).getD j (0, 0, 0)).1
  marks : MarksOk (allMarks oc w oc.length) (allRuns oc w (oc.length / 2 + 1))
  own1 : ∀ x ∈ ownAll oc (oc.length - 1), okT x
  own2 : (ownAll oc (oc.length - 1)).Nodup
  own3 : (ownAll oc (oc.length - 1)).length < 64
  own : ∀ M : List Run, M.Perm (ownAll oc (oc.length - 1)) → M.Pairwise (fun x y => numT x < numT y) → M = allRuns oc w (oc.length / 2 + 1)
noncomputable def gT (f : Run → Option D) : D → Option D
  | .tuple [.int a, .int b, .int c] => f (a.toNat, b.toNat, c.toNat)
  | _ => none
theorem gT_run (f : Run → Option D) (x : Run) : gT f (runD x) = f x := by
  obtain ⟨a, b, c⟩ := x
  show f ((a : Int).toNat, (b : Int).toNat, (c : Int).toNat) = _
  rw [Int.toNat_natCast, Int.toNat_natCast, Int.toNat_natCast]
theorem map_gT (f : Run → Int) (L : List Run) : (L.map runD).filterMap (gT fun x => some (.int (f x))) = (L.map f).map D.int := by
  induction L with
  | nil => rfl
  | cons x L ih => rw [List.map_cons, List.filterMap_cons, gT_run, ih]; rfl
theorem law_ok {C : Cx} (ok : C.Ok) {n : Nat} {ns : List Int} (hβ : ∃ o, C.H.get? C.β = some o)
    (hz : ns.length ≤ 1000) (hm : ∀ (oc : List Int) (w : Nat), 2 ≤ oc.length → oc.length ≤ 16 → Lets oc → oc.length - 1 ≤ w → Math01 oc w) : Fn C (n + 7) (.ref 388) [.list (ns.map D.int)] none (fun _ r => r = .val (.bool true)) := by
  refine Fn_def ok (D_law ok) rfl (by rfl) ?_
  refine Ex_cons (Ex1_assign_mu ?_ (by rfl) (by rfl))
  refine Ev_fun (f := 316) (n := n + 1) ok (by rfl) (by rfl) (by rfl) (by rfl) (by show n + 1 ≤ n + 6; lia) (by rfl) ?_
  refine EvD_cons (Ev_name (by rfl) (by rfl) ?_) (by rfl)
  refine EvD_nil ?_
  refine box_ok ok hz fun d s => ?_
  refine Ex.mono (Q := fun _ _ f => FlatRet (fun d => d = .bool true) f) ?_ (fun v b f hf => ?_)
  rotate_left
  · cases f with
    | ret r =>
      cases r with
      | val d => obtain ⟨_, rfl⟩ := hf; exact rfl
      | _ => exact hf.elim
    | _ => exact hf.elim
  refine Ex_box (x := "box") (a := d) (b := s) (vars' := [("script", .val (.list (ns.map D.int)))]) hβ (by rfl) (SubV.all (by rfl)) (by simp [flatSlot, flat2_ints]) fun β => ?_
  have ok' := ok.at β
  clear ok hβ
  revert ok'
  generalize C.at β = C'
  intro ok'
  refine Ex_cut (α := List Int × Int × Int) (fun s => 2 ≤ s.1.length ∧ s.1.length ≤ 16 ∧ Lets s.1) (fun s => [("text", .val (.bytes s.1)), ("box", .val .box)]) (fun s => some (.two s.2.1 s.2.2)) ?_ fun ⟨oc, a1, b1⟩ ⟨p1, p2, p3⟩ => ?_
  · intro I fin
    refine Ex1_assign ?_ (by rfl) (by rfl)
    refine Ev_fun (f := 335) (n := n + 3) ok' (by rfl) (by rfl) (by rfl) (by rfl) (by show n + 3 ≤ n + 6; lia) (by rfl) ?_
    refine EvD_cons (Ev_name (by rfl) (by rfl) ?_) (by rfl)
    refine EvD_cons (Ev_if (Ts_boolop (TsA_and (Ts_cmp ?_ (by rfl))))) (by rfl)
    refine Ev_len ok' (by rfl) (by rfl) (by rfl) (Ev_name (by rfl) (by rfl) (len_l (ds := ns.map D.int) (by rfl) (by simp; lia) (Ev_int (lt_i ?_))))
    refine And.intro (fun t => ?_) (fun t => And.intro (fun t => nomatch t) (fun _ => Ev_int (EvD_nil (text_ok (n := n) ok' (by decide) (by decide) fun a' b' ls l1 l2 l3 => fin _ _ ⟨(ls, a', b'), ⟨l1, by show ls.length ≤ 16; lia, l3⟩, SubV.all (by rfl), rfl⟩))))
    refine TsA_and (Ts_cmp (Ev_box (by rfl) (by rfl) rfl (.inl rfl) (Ev_int (eq_i ?_))) (by rfl))
    refine And.intro (fun t => TsA_and_nil (And.intro (fun _ => Ev_int (EvD_nil (text_ok (n := n) ok' (by decide) (by decide) fun a' b' ls l1 l2 l3 => fin _ _ ⟨(ls, a', b'), ⟨l1, by show ls.length ≤ 16; lia, l3⟩, SubV.all (by rfl), rfl⟩))) (fun t => nomatch t))) (fun t => And.intro (fun t => nomatch t) (fun _ => Ev_int (EvD_nil (text_ok (n := n) ok' (by decide) (by decide) fun a' b' ls l1 l2 l3 => fin _ _ ⟨(ls, a', b'), ⟨l1, by show ls.length ≤ 16; lia, l3⟩, SubV.all (by rfl), rfl⟩))))
  dsimp only at p1 p2 p3 ⊢
  refine Ex_cons (Ex1_assign_tup (xs := ["size", "window"]) (by rfl) (by first | (left; rfl) | (right; rfl)) (by rfl) (by decide) ?_)
  refine EvL_cons (Ev_len ok' (by rfl) (by rfl) (by rfl) (Ev_name (by rfl) (by rfl) (len_by (by lia) ?_))) (by rfl)
  refine EvL_cons (Ev_bin (Ev_bin (Ev_len ok' (by rfl) (by rfl) (by rfl) (Ev_name (by rfl) (by rfl) (len_by (by lia) ?_))))) (by rfl)
  refine Ev_int (sub_i ?_)
  refine Ev_fun (f := 323) (n := n + 1) ok' (by rfl) (by rfl) (by rfl) (by rfl) (by show n + 1 ≤ n + 6; lia) (by rfl) ?_
  repeat (walk_at "mine")
  refine take_ok ok' (by decide) (by decide) fun a2 b2 u u0 u1 => ?_
  refine add_i ?_
  obtain ⟨u, rfl⟩ := Int.eq_ofNat_of_zero_le u0
  rw [show ((oc.length : Int) - 1 + (u : Int)) = ((oc.length - 1 + u : Nat) : Int) by lia]
  refine EvL_nil ⟨_, rfl, by simp, ?_⟩
  have w1 : oc.length - 1 ≤ oc.length - 1 + u := by lia
  generalize oc.length - 1 + u = w at *
  have M := hm oc w p1 p2 p3 w1
  clear u0 u1 hm
  refine Ex_cons (Ex1_assign ?_ (by rfl) (by rfl))
  refine Ev_fun (f := 226) (n := n + 4) ok' (by rfl) (by rfl) (by rfl) (by rfl) (by show n + 4 ≤ n + 6; lia) (by rfl) ?_
  refine EvD_cons (Ev_name (by rfl) (by rfl) ?_) (by rfl)
  refine EvD_cons (Ev_bin (Ev_int ?_)) (by rfl)
  refine Ev_fun (f := 323) (n := n + 1) ok' (by rfl) (by rfl) (by rfl) (by rfl) (by show n + 1 ≤ n + 6; lia) (by rfl) ?_
  repeat (walk_at "mine")
  refine take_ok ok' (by decide) (by decide) fun a4 b4 l l0 l1 => ?_
  refine add_i ?_
  repeat (walk_at "mine")
  refine finder_ok ok' (by lia) (by (clear hz p2; omega)) (by decide) (by lia) fun f1 hf1 => ?_
  refine Ex_cons (Ex1_assign_tup (xs := ["finders", "turn"]) (by rfl) (by first | (left; rfl) | (right; rfl)) (by rfl) (by decide) ?_)
  refine EvL_cons (Ev_list ?_) (by rfl)
  refine EvD_cons (Ev_name (by rfl) (by rfl) ?_) (by rfl)
  refine EvD_cons ?_ (by rfl)
  refine Ev_fun (f := 274) (n := n + 4) ok' (by rfl) (by rfl) (by rfl) (by rfl) (by show n + 4 ≤ n + 6; lia) (by rfl) ?_
  repeat (walk_at "mine")
  refine tree_ok ok' (by decide) (by (clear hz p2; omega)) (by decide) (by lia) fun f2 hf2 => ?_
  refine EvD_cons ?_ (by rfl)
  refine Ev_fun (f := 307) (n := n + 6) ok' (by rfl) (by rfl) (by rfl) (by rfl) (by show n + 6 ≤ n + 6; lia) (by rfl) ?_
  repeat (walk_at "mine")
  refine layered_ok ok' (by (clear hz p2; omega)) (by decide) (by lia) fun f3 hf3 => ?_
  refine EvD_nil ⟨by show 3 ≤ 1000; decide, ?_⟩
  refine EvL_cons ?_ (by rfl)
  refine Ev_fun (f := 323) (n := n + 1) ok' (by rfl) (by rfl) (by rfl) (by rfl) (by show n + 1 ≤ n + 6; lia) (by rfl) ?_
  repeat (walk_at "mine")
  refine take_ok ok' (by decide) (by decide) fun a5 b5 tn t0 t1 => ?_
  refine EvL_nil ⟨_, rfl, by show 2 ≤ 1000; decide, ?_⟩
  refine Ex_freeze "finders" (by rfl) ?_
  have hpick : ∀ k : Int, 0 ≤ k → k < 3 → ∃ Cl fs, [D.inst 226 f1, D.inst 274 f2, D.inst 307 f3][k.toNat]? = some (.inst Cl fs) ∧ Obj C' Cl fs oc w := by
    intro k k0 k1
    have : k = 0 ∨ k = 1 ∨ k = 2 := by lia
    rcases this with rfl | rfl | rfl
    · exact ⟨_, _, rfl, hf1⟩
    · exact ⟨_, _, rfl, hf2⟩
    · exact ⟨_, _, rfl, hf3⟩
  generalize [D.inst 226 f1, D.inst 274 f2, D.inst 307 f3] = fds at hpick ⊢
  clear hf1 hf2 hf3
  obtain ⟨C1, g1, e1, o1⟩ := hpick tn t0 t1
  obtain ⟨C2, g2, e2, o2⟩ := hpick ((tn + 1).fmod 3) (Int.fmod_nonneg_of_pos _ (by decide)) (Int.fmod_lt_of_pos _ (by decide))
  clear hpick
  refine Ex_cons (Ex1_assign ?_ (by rfl) (by rfl))
  refine Ev_fun (f := 340) (n := n + 4) ok' (by rfl) (by rfl) (by rfl) (by rfl) (by show n + 4 ≤ n + 6; lia) (by rfl) ?_
  refine EvD_cons (Ev_sub (Ev_name (by rfl) (by rfl) ?_) (by rfl)) (by rfl)
  refine Ev_name (by rfl) (by rfl) ⟨rfl, item_l (d := .inst C1 g1) (ds := fds) (by rfl) t0 (by lia) e1 ?_⟩
  refine EvD_cons (Ev_name (by rfl) (by rfl) ?_) (by rfl)
  refine EvD_nil (runs_ok ok' o1 p2 ?_)
  have hf := M.few
  have hk := M.ok
  have hs := M.sum
  have ha := M.apart
  have hM := M.marks
  have w1 := M.own1
  have w2 := M.own2
  have w3 := M.own3
  have w4 := M.own
  clear M
  generalize allRuns oc w (oc.length / 2 + 1) = T at hf hk hs ha hM w4 ⊢
  refine Ex_cons (Ex1_if (Ts_boolop (TsA_or (Ts_cmp ?_ (by rfl)))))
  refine Ev_len ok' (by rfl) (by rfl) (by rfl) (Ev_name (by rfl) (by rfl) (len_l (ds := T.map runD) (by rfl) (by rw [List.length_map]; lia) ?_))
  rw [List.length_map]
  refine Ev_name (by rfl) (by rfl) (ge_i ?_)
  refine And.intro (fun t => absurd (of_decide_eq_true t) (by (clear t; lia))) (fun _ => ?_)
  refine TsA_or (Ts_cmp ?_ (by rfl))
  refine Ev_sum ok' (by rfl) (by rfl) (by rfl) ?_
  refine Ev_compP (T.map runD) (gT fun r => some (.int (((r.2.2 : Int) - r.2.1) * (840 / (r.1 : Int))))) ?_ ⟨fun d hd => ?_, by rfl, by rfl, by rfl, by rfl, by rw [List.length_map]; lia⟩ (by rfl)
  rotate_left
  · obtain ⟨⟨r1, r2, r3⟩, hm, rfl⟩ := List.mem_map.mp hd
    have h1 := hk _ hm
    dsimp only at h1
    have h2 : 0 ≤ (840 : Int) / (r1 : Int) ∧ (840 : Int) / (r1 : Int) ≤ 840 := ⟨Int.ediv_nonneg (by decide) (by (clear h1; lia)), Int.ediv_le_self _ (by decide)⟩
    refine ⟨_, rfl, TsL_nil (And.intro (fun _ => ?_) (fun t => nomatch t))⟩
    refine Ev_bin (Ev_bin (Ev_name (by rfl) (by rfl) ?_))
    refine Ev_name (by rfl) (by rfl) (sub_i ?_)
    refine Ev_bin (Ev_int ?_)
    refine Ev_name (by rfl) (by rfl) (div_i (by lia) ?_ ?_)
    · show r1 < 1073741824
      lia
    rw [Int.fdiv_eq_ediv_of_nonneg _ (by (clear h1; lia))]
    refine mul_i (by (clear ha; lia)) ⟨rfl, ?_⟩
    exact gT_run _ _
  refine Ev_name (by rfl) (by rfl) ⟨ItOk_list, rfl, ?_⟩
  rw [map_gT]
  refine sum_l (by rfl) ?_
  refine Ev_bin (Ev_int ?_)
  refine Ev_bin (Ev_name (by rfl) (by rfl) ?_)
  refine Ev_int (sub_i (mul_i (by (clear hz p1 w3 hf hs; omega)) (gt_i ?_)))
  refine And.intro (fun t => absurd (of_decide_eq_true t) (by (clear t; lia))) (fun _ => ?_)
  refine TsA_or_nil (And.intro (fun t => nomatch t) (fun _ => Ex_nil ?_))
  refine Ex_cons (Ex1_if (Ts_boolop (TsA_or (Ts_not (Ts_val ?_ (fun _ _ => rfl))))))
  refine Ev_fun (f := 354) (n := n + 2) ok' (by rfl) (by rfl) (by rfl) (by rfl) (by show n + 2 ≤ n + 6; lia) (by rfl) ?_
  refine EvD_cons (Ev_name (by rfl) (by rfl) ?_) (by rfl)
  refine EvD_nil (apart_ok ok' (by lia) ha ?_)
  refine And.intro (fun t => nomatch t) (fun _ => ?_)
  refine TsA_or (Ts_not (Ts_val ?_ (fun _ _ => rfl)))
  refine Ev_fun (f := 378) (n := n + 1) ok' (by rfl) (by rfl) (by rfl) (by rfl) (by show n + 1 ≤ n + 6; lia) (by rfl) ?_
  refine EvD_cons ?_ (by rfl)
  refine Ev_fun (f := 373) (n := n + 5) ok' (by rfl) (by rfl) (by rfl) (by rfl) (by show n + 5 ≤ n + 6; lia) (by rfl) ?_
  refine EvD_cons (Ev_sub (Ev_name (by rfl) (by rfl) ?_) (by rfl)) (by rfl)
  refine Ev_bin (Ev_bin (Ev_name (by rfl) (by rfl) ?_))
  refine Ev_int (add_i (Ev_int (mod_i (by decide) ⟨rfl, item_l (d := .inst C2 g2) (ds := fds) (by rfl) (Int.fmod_nonneg_of_pos _ (by decide)) ?_ e2 ?_⟩)))
  · have := Int.fmod_lt_of_pos (tn + 1) (b := 3) (by decide)
    show _ < (2 : Int) ^ 63
    (clear hz w3 hf hs; omega)
  refine EvD_cons (Ev_name (by rfl) (by rfl) ?_) (by rfl)
  refine EvD_nil (marks_ok ok' o2 p2 ?_)
  refine EvD_cons (Ev_name (by rfl) (by rfl) ?_) (by rfl)
  refine EvD_nil (mright_ok ok' hM ?_)
  refine And.intro (fun t => nomatch t) (fun _ => ?_)
  refine TsA_or_nil (And.intro (fun t => nomatch t) (fun _ => Ex_nil ?_))
  refine Ex_cons (Ex1_ret (Ev_cmp (Ev_name (by rfl) (by rfl) ?_) (by rfl)))
  refine Ev_fun (f := 383) (n := n + 1) ok' (by rfl) (by rfl) (by rfl) (by rfl) (by show n + 1 ≤ n + 6; lia) (by rfl) ?_
  refine EvD_cons (Ev_name (by rfl) (by rfl) ?_) (by rfl)
  refine EvD_nil (own_ok ok' p2 p1 w1 w2 w3 fun N n1 n2 => ?_)
  rw [w4 N n1 n2]
  refine eq_d (d := .list (T.map runD)) (e := .list (T.map runD)) (by rfl) (by rfl) (okN_runs _ _) (okN_runs _ _) fun t ht => ?_
  rw [ht.mpr rfl]
  exact ⟨rfl, rfl⟩
end
end Mine
section
set_option linter.unusedVariables false
namespace Mine
/-- the text's end from p (up to e) is less than the one from q -/
noncomputable def Lt (f : Nat → Int) (e p q : Nat) : Prop := ∃ c, q + c < e ∧ (∀ i, i < c → f (p + i) = f (q + i)) ∧ (p + c = e ∨ (p + c < e ∧ f (p + c) < f (q + c)))
section
variable {f : Nat → Int} {e p q r b g m n : Nat}
theorem Lt.irrefl (h : Lt f e p p) : False := by
  obtain ⟨c, h1, h2, h3⟩ := h
  rcases h3 with h3 | h3 <;> lia
theorem Lt.trans (h : Lt f e p q) (k : Lt f e q r) : Lt f e p r := by
  obtain ⟨c, h1, h2, h3⟩ := h
  obtain ⟨d, k1, k2, k3⟩ := k
  rcases Nat.lt_trichotomy c d with l | l | l
  · refine ⟨c, by (clear h1; lia), fun i hi => (h2 i hi).trans (k2 i (by lia)), ?_⟩
    rcases h3 with h3 | h3
    · exact .inl h3
    · exact .inr ⟨h3.1, by rw [← k2 c l]; exact h3.2⟩
  · subst l
    refine ⟨c, by omega, fun i hi => (h2 i hi).trans (k2 i (by omega)), ?_⟩
    rcases h3 with h3 | h3
    · exact .inl h3
    · rcases k3 with k3 | k3
      · lia
      · exact .inr ⟨h3.1, by lia⟩
  · refine ⟨d, by omega, fun i hi => (h2 i (by lia)).trans (k2 i hi), .inr ?_⟩
    rcases k3 with k3 | k3
    · lia
    · rcases h3 with h3 | h3 <;> exact ⟨by lia, by rw [h2 d l]; exact k3.2⟩
theorem first_diff (f : Nat → Int) (p q : Nat) : ∀ k, ∃ c, c ≤ k ∧ (∀ i, i < c → f (p + i) = f (q + i)) ∧ (c = k ∨ f (p + c) ≠ f (q + c))
  | 0 => ⟨0, Nat.le_refl _, fun i hi => absurd hi (Nat.not_lt_zero _), .inl rfl⟩
  | k + 1 => by
    obtain ⟨c, h1, h2, h3⟩ := first_diff f p q k
    by_cases h : f (p + c) = f (q + c)
    · have hc : c = k := h3.resolve_right (fun x => x h)
      subst hc
      refine ⟨c + 1, Nat.le_refl _, fun i hi => ?_, .inl rfl⟩
      by_cases l : i = c
      · subst l; exact h
      · exact h2 i (by lia)
    · exact ⟨c, by lia, h2, .inr h⟩
theorem Lt.total (hp : p ≤ e) (hq : q ≤ e) (h : p ≠ q) : Lt f e p q ∨ Lt f e q p := by
  rcases Nat.lt_or_ge p q with l | l
  · obtain ⟨c, h1, h2, h3⟩ := first_diff f p q (e - q)
    by_cases hc : c = e - q
    · right
      exact ⟨c, by (clear hp h hc; lia), fun i hi => (h2 i hi).symm, .inl (by (clear hp; lia))⟩
    · have h3 := h3.resolve_left hc
      rcases Int.lt_or_gt_of_ne h3 with u | u
      · left; exact ⟨c, by (clear l; lia), h2, .inr ⟨by (clear hp hq; lia), u⟩⟩
      · right; exact ⟨c, by (clear hp hq; lia), fun i hi => (h2 i hi).symm, .inr ⟨by (clear l; lia), u⟩⟩
  · obtain ⟨c, h1, h2, h3⟩ := first_diff f p q (e - p)
    by_cases hc : c = e - p
    · left
      exact ⟨c, by (clear hc; lia), h2, .inl (by lia)⟩
    · have h3 := h3.resolve_left hc
      rcases Int.lt_or_gt_of_ne h3 with u | u
      · left; exact ⟨c, by (clear hc; lia), h2, .inr ⟨by (clear l; lia), u⟩⟩
      · right; exact ⟨c, by (clear l; lia), fun i hi => (h2 i hi).symm, .inr ⟨by (clear hc; lia), u⟩⟩
theorem Lt.asymm (h : Lt f e p q) (k : Lt f e q p) : False := (h.trans k).irrefl
/-- the place of difference, when the lesser one is the longer -/
theorem Lt.strict (h : Lt f e b p) (hb : b ≤ p) : ∃ c, p + c < e ∧ (∀ i, i < c → f (b + i) = f (p + i)) ∧ f (b + c) < f (p + c) := by
  obtain ⟨c, h1, h2, h3⟩ := h
  rcases h3 with h3 | h3
  · omega
  · exact ⟨c, h1, h2, h3.2⟩
theorem Lt.of_strict {c : Nat} (hb : b ≤ p) (h1 : p + c < e) (h2 : ∀ i, i < c → f (b + i) = f (p + i)) (h3 : f (b + c) < f (p + c)) : Lt f e b p := ⟨c, h1, h2, .inr ⟨by lia, h3⟩⟩
theorem Lt.mono {e' : Nat} (h : Lt f e b p) (hb : b ≤ p) (he : e ≤ e') : Lt f e' b p := by
  obtain ⟨c, h1, h2, h3⟩ := h.strict hb
  exact .of_strict hb (by (clear hb; lia)) h2 h3
theorem Lt.shift {k : Nat} (h : Lt f e p q) (hk : ∀ i, i < k → f (p + i) = f (q + i)) (h1 : p + k ≤ e) (h2 : q + k ≤ e) : Lt f e (p + k) (q + k) := by
  obtain ⟨c, g1, g2, g3⟩ := h
  have hc : k ≤ c := by
    apply Classical.byContradiction
    intro l
    have := hk c (by lia)
    rcases g3 with g3 | g3 <;> lia
  refine ⟨c - k, by (clear h1; lia), fun i hi => ?_, ?_⟩
  · have := g2 (k + i) (by (clear h1 hc; omega))
    rw [Nat.add_assoc, Nat.add_assoc]; exact this
  · have e1 : p + k + (c - k) = p + c := by lia
    have e2 : q + k + (c - k) = q + c := by lia
    rw [e1, e2]; exact g3
/-- a Lyndon word -/
noncomputable def LYN (f : Nat → Int) (b e : Nat) : Prop := b < e ∧ ∀ p, b < p → p < e → Lt f e b p
/-- the next place with a lesser end -/
structure IsN (f : Nat → Int) (e b g : Nat) : Prop where
  lt : b < g
  le : g ≤ e
  mid : ∀ p, b < p → p < g → Lt f e b p
  fin : g = e ∨ Lt f e g b
theorem IsN.unique {g' : Nat} (h : IsN f e b g) (k : IsN f e b g') : g = g' := by
  rcases Nat.lt_trichotomy g g' with l | l | l
  · rcases h.fin with x | x
    · have := k.le; lia
    · exact ((k.mid g h.lt l).asymm x).elim
  · exact l
  · rcases k.fin with x | x
    · have := h.le; lia
    · exact ((h.mid g' k.lt l).asymm x).elim
theorem IsN.lyn (h : IsN f e b g) : LYN f b g := by
  refine ⟨h.lt, fun p p1 p2 => ?_⟩
  have hp := h.mid p p1 p2
  obtain ⟨c, h1, h2, h3⟩ := hp.strict (by lia)
  by_cases hc : p + c < g
  · exact .of_strict (by lia) hc h2 h3
  · exfalso
    have hlt : g < e := by (clear p2; lia)
    have gb : Lt f e g b := h.fin.resolve_left (by lia)
    have hj := h.mid (b + (g - p)) (by lia) (by lia)
    have hs := hp.shift (k := g - p) (fun i hi => h2 i (by lia)) (by (clear hc; lia)) (by (clear hc; lia))
    rw [show p + (g - p) = g by lia] at hs
    exact (hj.trans hs).asymm gb
theorem IsN.max {g' : Nat} (h : IsN f e b g) (k : LYN f b g') (he : g' ≤ e) : g' ≤ g := by
  apply Classical.byContradiction
  intro l
  have hg : g < e := by lia
  have := (k.2 g h.lt (by lia)).mono (by have := h.lt; lia) he
  exact this.asymm (h.fin.resolve_left (by lia))
end
end Mine
end
section
set_option linter.unusedVariables false
namespace Mine
section
variable {f : Nat → Int} {e p q r b g m n s a h : Nat}
/-- a greater letter behind a word said again and again -/
theorem LYN.grow (hw : LYN f b (b + s)) (hs : b + s ≤ a) (hp : ∀ i, b ≤ i → i + s < a → f (i + s) = f i) (hl : f (a - s) < f a) : LYN f b (a + 1) := by
  have h0 := hw.1
  have up : ∀ p, b + s ≤ p → p ≤ a → Lt f (a + 1) (p - s) p := fun p p1 p2 => by
    refine .of_strict (c := a - p) (by (clear hs hl h0 p1; omega)) (by lia) (fun i hi => ?_) ?_
    · have := hp (p - s + i) (by (clear hi; lia)) (by lia)
      rw [show p - s + i + s = p + i by (clear this; lia)] at this
      exact this.symm
    · rw [show p - s + (a - p) = a - s by lia, show p + (a - p) = a by lia]; exact hl
  refine ⟨by (clear h0; lia), ?_⟩
  intro p
  induction p using Nat.strongRecOn with
  | _ p ih =>
    intro p1 p2
    by_cases c1 : p < b + s
    · exact (hw.2 p p1 c1).mono (by lia) (by lia)
    · have := up p (by lia) (by lia)
      by_cases c2 : p - s = b
      · rw [c2] at this; exact this
      · exact (ih (p - s) (by (clear hs hl c1; omega)) (by (clear ih; lia)) (by (clear hl h0; omega))).trans this
theorem LYN.isN (hw : LYN f b (b + s)) (hs : b + s ≤ a) (hn : a ≤ n) (hp : ∀ i, b ≤ i → i + s < a → f (i + s) = f i) (hl : a = n ∨ (a < n ∧ f a < f (a - s))) : IsN f n b (b + s) := by
  refine ⟨hw.1, by lia, fun p p1 p2 => (hw.2 p p1 p2).mono (by lia) (by lia), ?_⟩
  by_cases x : b + s = n
  · exact .inl x
  · right
    have h0 := hw.1
    refine ⟨a - (b + s), by lia, fun i hi => ?_, ?_⟩
    · have := hp (b + i) (by lia) (by (clear hs hn; omega))
      rw [show b + i + s = b + s + i by (clear this; lia)] at this
      exact this
    · rcases hl with l | ⟨l1, l2⟩
      · left; (clear hn; lia)
      · right
        rw [show b + s + (a - (b + s)) = a by (clear l2; omega), show b + (a - (b + s)) = a - s by lia]
        exact ⟨l1, l2⟩
end
end Mine
end
section
set_option linter.unusedVariables false
namespace Mine
/-- f goes on with p from b to e -/
noncomputable def Per (f : Nat → Int) (b e p : Nat) : Prop := ∀ i, b ≤ i → i + p < e → f (i + p) = f i
section
variable {f : Nat → Int} {b e m p q g : Nat}
theorem Per.sub {b' e' : Nat} (h : Per f b e p) (hb : b ≤ b') (he : e' ≤ e) : Per f b' e' p := fun i h1 h2 => h i (Nat.le_trans hb h1) (Nat.lt_of_lt_of_le h2 he)
theorem Per.mod (h : Per f b e p) : ∀ i, b + i < e → f (b + i) = f (b + i % p) := by
  intro i
  induction i using Nat.strongRecOn with
  | ind i ih =>
    intro hi
    by_cases hp : p ≤ i ∧ 0 < p
    · have h1 := ih (i - p) (by (clear hi; omega)) (by (clear hp; omega))
      have h2 := h (b + (i - p)) (by lia) (by lia)
      rw [show b + (i - p) + p = b + i by (clear h2; lia)] at h2
      rw [Nat.mod_eq_sub_mod hp.1, h2, h1]
    · by_cases h0 : p = 0
      · rw [h0, Nat.mod_zero]
      · rw [Nat.mod_eq_of_lt (by lia)]
theorem Per.of_mod (h : ∀ i, b + i < e → f (b + i) = f (b + i % p)) : Per f b e p := by
  intro i h1 h2
  have a := h (i - b + p) (by lia)
  have c := h (i - b) (by lia)
  rw [Nat.add_mod_right, ← c, show b + (i - b + p) = i + p by (clear a; lia), show b + (i - b) = i by lia] at a
  exact a
theorem Per.ext (h : Per f b e p) (k : Per f b m g) (hg : g ∣ p) (hp : 0 < p) (hm : b + p ≤ m) : Per f b e g := by
  refine .of_mod fun i hi => ?_
  have h1 := Nat.mod_lt i hp
  have hle : i % g ≤ i := Nat.mod_le _ _
  rw [h.mod i hi, k.mod (i % p) (by lia), Nat.mod_mod_of_dvd _ hg]
theorem Per.mul (h : Per f b e g) (hg : g ∣ p) (hp : 0 < p) : Per f b e p := by
  refine .of_mod fun i hi => ?_
  have hle : i % p ≤ i := Nat.mod_le _ _
  rw [h.mod i hi, h.mod (i % p) (by lia), Nat.mod_mod_of_dvd _ hg]
/-- Fine and Wilf -/
theorem Per.fw : ∀ (k p q e : Nat), p + q ≤ k → 0 < p → 0 < q → Per f b e p → Per f b e q → b + p + q ≤ e + Nat.gcd p q → Per f b e (Nat.gcd p q) := by
  intro k
  induction k with
  | zero => intro p q e h; lia
  | succ k ih =>
    intro p q e hk hp hq h1 h2 he
    rcases Nat.lt_trichotomy p q with l | l | l
    · have hgp := Nat.gcd_dvd_left p q
      have g1 : Nat.gcd p (q - p) = Nat.gcd p q := Nat.gcd_sub_self_right (by lia)
      have gle : Nat.gcd p q ≤ q - p := by rw [← g1]; exact Nat.gcd_le_right _ (by (clear g1; lia))
      have h3 : Per f b (e - p) (q - p) := fun i i1 i2 => by
        rw [← h2 i i1 (by (clear he gle i1; lia)), ← h1 (i + (q - p)) (by (clear he; lia)) (by (clear hk hgp g1 i1; omega))]
        congr 1; lia
      have h4 := ih p (q - p) (e - p) (by lia) hp (by lia) (h1.sub (Nat.le_refl _) (by (clear hk hp he hgp g1 gle; omega))) h3 (by rw [g1]; (clear gle; lia))
      rw [g1] at h4
      exact h1.ext h4 hgp hp (by (clear hk hp; lia))
    · subst l; rw [Nat.gcd_self]; exact h1
    · have hgq := Nat.gcd_dvd_right p q
      have g1 : Nat.gcd (p - q) q = Nat.gcd p q := Nat.gcd_sub_self_left (by lia)
      have gle : Nat.gcd p q ≤ p - q := by rw [← g1]; exact Nat.gcd_le_left _ (by (clear g1; lia))
      have h3 : Per f b (e - q) (p - q) := fun i i1 i2 => by
        rw [← h1 i i1 (by (clear hk he l hgq g1 gle i1; omega)), ← h2 (i + (p - q)) (by (clear he; lia)) (by (clear hk hgq g1 i1; omega))]
        congr 1; lia
      have h4 := ih (p - q) q (e - q) (by lia) (by lia) hq h3 (h2.sub (Nat.le_refl _) (by (clear hk hq he hgq g1 gle; omega))) (by rw [g1]; (clear gle; lia))
      rw [g1] at h4
      exact h2.ext h4 hgq hq (by (clear hq; lia))
theorem Per.gcd (hp : 0 < p) (hq : 0 < q) (h1 : Per f b e p) (h2 : Per f b e q) (he : b + p + q ≤ e + Nat.gcd p q) : Per f b e (Nat.gcd p q) := Per.fw (p + q) p q e (Nat.le_refl _) hp hq h1 h2 he
end
/-- of all turns of a word the least one -/
noncomputable def GL (G : Nat → Int) (j s : Nat) : Prop := ∃ c, (∀ i, i < c → G (j + i) = G (s + i)) ∧ G (j + c) < G (s + c)
section
variable {G : Nat → Int} {p : Nat}
theorem GL.trans {a b c : Nat} (h : GL G a b) (k : GL G b c) : GL G a c := by
  obtain ⟨x, h1, h2⟩ := h
  obtain ⟨y, k1, k2⟩ := k
  rcases Nat.lt_trichotomy x y with l | l | l
  · exact ⟨x, fun i hi => (h1 i hi).trans (k1 i (Nat.lt_trans hi l)), by rw [← k1 x l]; exact h2⟩
  · subst l; exact ⟨x, fun i hi => (h1 i hi).trans (k1 i hi), Int.lt_trans h2 k2⟩
  · exact ⟨y, fun i hi => (h1 i (Nat.lt_trans hi l)).trans (k1 i hi), by rw [h1 y l]; exact k2⟩
theorem least_turn (G : Nat → Int) : ∀ n, ∃ s, s < n + 1 ∧ ∀ j, j < n + 1 → ¬ GL G j s
  | 0 => ⟨0, Nat.lt_succ_self _, fun j hj ⟨c, h1, h2⟩ => by
      rw [show j = 0 by lia] at h2
      exact absurd h2 (Int.lt_irrefl _)⟩
  | n + 1 => by
    obtain ⟨s, h1, h2⟩ := least_turn G n
    by_cases h : GL G (n + 1) s
    · refine ⟨n + 1, Nat.lt_succ_self _, fun j hj k => ?_⟩
      by_cases e : j = n + 1
      · subst e
        obtain ⟨c, _, k2⟩ := k
        exact absurd k2 (Int.lt_irrefl _)
      · exact h2 j (by lia) (k.trans h)
    · refine ⟨s, by lia, fun j hj k => ?_⟩
      by_cases e : j = n + 1
      · subst e; exact h k
      · exact h2 j (by lia) k
theorem first_off {u v : Nat → Int} : ∀ n, (∃ i, i < n ∧ u i ≠ v i) → ∃ c, (∀ i, i < c → u i = v i) ∧ u c ≠ v c := by
  intro n
  induction n with
  | zero => rintro ⟨i, h, _⟩; lia
  | succ n ih =>
    intro h
    by_cases k : ∃ i, i < n ∧ u i ≠ v i
    · exact ih k
    · obtain ⟨i, h1, h2⟩ := h
      refine ⟨i, fun j hj => ?_, h2⟩
      apply Classical.byContradiction
      exact fun q => k ⟨j, by lia, q⟩
theorem turn_mod (hp : ∀ i, G (i + p) = G i) (i : Nat) : G i = G (i % p) := by
  have h : Per G 0 (i + 1) p := fun i _ _ => hp i
  have := h.mod i (by lia)
  simpa using this
/-- a word that is no shorter one said again has a turn that is less than all its own ends -/
theorem lyn_turn (hp : ∀ i, G (i + p) = G i) (h0 : 0 < p) (hq : ∀ j, 0 < j → j < p → ∃ i, G (i + j) ≠ G i) :
    ∃ s, s < p ∧ ∀ j, 0 < j → j < p → ∃ c, j + c < p ∧ (∀ i, i < c → G (s + i) = G (s + j + i)) ∧ G (s + c) < G (s + j + c) := by
  obtain ⟨s, hs, hm⟩ := least_turn G (p - 1)
  have hm' : ∀ j, ¬ GL G j s := fun j ⟨c, h1, h2⟩ => by
    refine hm (j % p) (by have := Nat.mod_lt j h0; (clear hs h2; omega)) ⟨c, fun i hi => ?_, ?_⟩
    · rw [← h1 i hi, turn_mod hp (j % p + i), turn_mod hp (j + i), Nat.mod_add_mod]
    · rw [turn_mod hp (j % p + c), Nat.mod_add_mod, ← turn_mod hp (j + c)]; exact h2
  have key : ∀ j, 0 < j → j < p → ∃ c, (∀ i, i < c → G (s + i) = G (s + j + i)) ∧ G (s + c) < G (s + j + c) := by
    intro j j0 j1
    obtain ⟨i, hi⟩ := hq j j0 j1
    have : ∃ c, (∀ i, i < c → G (s + i) = G (s + j + i)) ∧ G (s + c) ≠ G (s + j + c) := by
      refine first_off (u := fun i => G (s + i)) (v := fun i => G (s + j + i)) (i + s * p + 1) ⟨i + s * p - s, by (clear hs; omega), fun e => hi ?_⟩
      have hsp : s ≤ s * p := Nat.le_mul_of_pos_right _ h0
      rw [show s + (i + s * p - s) = i + s * p by (clear hs; lia), show s + j + (i + s * p - s) = i + j + s * p by (clear hs hi; lia), turn_mod hp (i + s * p), turn_mod hp (i + j + s * p), Nat.add_mul_mod_self_right, Nat.add_mul_mod_self_right, ← turn_mod hp, ← turn_mod hp] at e
      exact e.symm
    obtain ⟨c, h1, h2⟩ := this
    refine ⟨c, h1, ?_⟩
    rcases Int.lt_or_gt_of_ne h2 with l | l
    · exact l
    · exact absurd ⟨c, fun i hi => (h1 i hi).symm, l⟩ (hm' (s + j))
  refine ⟨s, by omega, fun j j0 j1 => ?_⟩
  obtain ⟨c, h1, h2⟩ := key j j0 j1
  refine ⟨c, ?_, h1, h2⟩
  apply Classical.byContradiction
  intro hc
  obtain ⟨d, k1, k2⟩ := key (p - j) (by lia) (by (clear hs j1 h2 hc; omega))
  refine hm' (s + j) ⟨p - j + d, fun i hi => ?_, ?_⟩
  · by_cases hi2 : i < p - j
    · exact (h1 i (by (clear h0 hs j1 h2 k2 hi; omega))).symm
    · have := k1 (i - (p - j)) (by (clear hs h2 hc k2; omega))
      rw [show s + (p - j) + (i - (p - j)) = s + i by lia] at this
      rw [← this, show s + j + i = s + (i - (p - j)) + p by lia, hp]
  · rw [show s + j + (p - j + d) = s + d + p by lia, hp, show s + (p - j + d) = s + (p - j) + d by (clear k2; lia)]; exact k2
end
end Mine
end
section
set_option linter.unusedVariables false
namespace Mine
theorem inj_len {α β : Type} [DecidableEq β] {T : α → β → Prop} : ∀ {X : List α} {Y : List β}, X.Nodup → (∀ x ∈ X, ∃ y ∈ Y, T x y) → (∀ x ∈ X, ∀ x' ∈ X, ∀ y, T x y → T x' y → x = x') → X.length ≤ Y.length
  | [], _, _, _, _ => Nat.zero_le _
  | x :: X, Y, hn, h, hi => by
    obtain ⟨y, hy, hT⟩ := h x List.mem_cons_self
    rw [List.nodup_cons] at hn
    have := inj_len (T := T) (X := X) (Y := Y.erase y) hn.2 (fun x' hx' => by
      obtain ⟨y', hy', hT'⟩ := h x' (List.mem_cons_of_mem _ hx')
      refine ⟨y', (List.mem_erase_of_ne fun e => ?_).mpr hy', hT'⟩
      subst e
      exact hn.1 (hi x List.mem_cons_self x' (List.mem_cons_of_mem _ hx') _ hT hT' ▸ hx')) (fun x1 h1 x2 h2 => hi x1 (List.mem_cons_of_mem _ h1) x2 (List.mem_cons_of_mem _ h2))
    rw [List.length_erase_of_mem hy] at this
    have := List.length_pos_of_mem hy
    rw [List.length_cons]; lia
section
variable {f : Nat → Int} {n L p q d : Nat}
/-- a word with its turns all the way round, at the one that is less than its own ends -/
structure Circ (f : Nat → Int) (n L q d : Nat) : Prop where
  pos : 0 < d
  le : d ≤ L
  len : q + L + 1 ≤ n
  per : Per f q (q + L + 1) d
  lyn : ∀ j, 0 < j → j < d → ∃ c, j + c < d ∧ (∀ i, i < c → f (q + i) = f (q + j + i)) ∧ f (q + c) < f (q + j + c)
  all : ∀ j, j < d → ∃ q', q' + L + 1 ≤ n ∧ ∀ i, i ≤ L → f (q' + i) = f (q + (j + i) % d)
end
end Mine
end
section
set_option linter.unusedVariables false
namespace Mine
/-- a stretch that holds a period, its least one, twice at least, and goes on with it to neither side -/
structure IsRun (f : Nat → Int) (n p b e : Nat) : Prop where
  pos : 0 < p
  two : b + 2 * p ≤ e
  le : e ≤ n
  per : Per f b e p
  left : b = 0 ∨ f (b - 1) ≠ f (b - 1 + p)
  right : e = n ∨ f e ≠ f (e - p)
  least : ∀ q, 0 < q → q < p → ¬ Per f b e q
section
variable {f : Nat → Int} {n p b e b' e' p' B E g : Nat}
theorem left_stop (P : Per f b' e' p) (l : b = 0 ∨ f (b - 1) ≠ f (b - 1 + p)) (h : b' < b) (he : b + p ≤ e') : False := by
  rcases l with l | l
  · lia
  · exact l (P (b - 1) (by (clear he; omega)) (by (clear l; lia))).symm
theorem right_stop (P : Per f b' e' p) (r : e = n ∨ f e ≠ f (e - p)) (h : e < e') (hn : e' ≤ n) (hb : b' + p ≤ e) : False := by
  rcases r with r | r
  · lia
  · have := P (e - p) (by lia) (by lia)
    rw [show e - p + p = e by (clear h this; lia)] at this
    exact r this
/-- the same period, and so much in both: the same stretch -/
theorem same_stretch (P : Per f b e p) (P' : Per f b' e' p) (l : b = 0 ∨ f (b - 1) ≠ f (b - 1 + p)) (l' : b' = 0 ∨ f (b' - 1) ≠ f (b' - 1 + p)) (r : e = n ∨ f e ≠ f (e - p)) (r' : e' = n ∨ f e' ≠ f (e' - p)) (he : e ≤ n) (he' : e' ≤ n)
    (h1 : b + p ≤ e') (h2 : b' + p ≤ e) (h3 : b + p ≤ e) (h4 : b' + p ≤ e') : b = b' ∧ e = e' := by
  constructor
  · rcases Nat.lt_trichotomy b b' with x | x | x
    · exact (left_stop P l' x h2).elim
    · exact x
    · exact (left_stop P' l x h1).elim
  · rcases Nat.lt_trichotomy e e' with x | x | x
    · exact (right_stop P' r x he' h2).elim
    · exact x
    · exact (right_stop P r' x he h1).elim
theorem Per.back (P : Per f b e p) (Q : Per f B e g) (hg : g ∣ p) (hp : 0 < p) (hB : B + p ≤ e) : Per f b e g := by
  have hgp : g ≤ p := Nat.le_of_dvd hp hg
  have key : ∀ k i, b ≤ i → B ≤ i + k → i + g < e → f (i + g) = f i := by
    intro k
    induction k with
    | zero => intro i h1 h2 h3; exact Q i h2 h3
    | succ k ih =>
      intro i h1 h2 h3
      by_cases hi : B ≤ i
      · exact Q i hi h3
      · have e1 := P i h1 (by lia)
        by_cases h4 : i + g + p < e
        · have e2 := P (i + g) (by lia) h4
          have e3 := ih (i + p) (by (clear hp e1; lia)) (by (clear e1; lia)) (by (clear e1; lia))
          rw [← e1, ← e2, ← e3]; congr 1; (clear e1 e2 e3; lia)
        · by_cases e0 : p = g
          · rw [← e0]; exact e1
          · have e4 := (Q.mul (p := p - g) (Nat.dvd_sub hg (Nat.dvd_refl g)) (by lia)) (i + g) (by lia) (by (clear e0; lia))
            rw [show i + g + (p - g) = i + p by (clear e1 e4; lia)] at e4
            rw [← e4, e1]
  exact fun i h1 h2 => key B i h1 (by lia) h2
/-- what holds a divisor of the period for one period holds it all -/
theorem IsRun.no_part (r : IsRun f n p b e) (Q : Per f B E g) (hg : g ∣ p) (h0 : 0 < g) (hlt : g < p) (hb : b ≤ B) (hB : B + p ≤ E) (hE : E ≤ e) : False := by
  have h1 : Per f B e g := (r.per.sub hb (Nat.le_refl _)).ext Q hg r.pos hB
  exact r.least g h0 hlt (r.per.back h1 hg r.pos (by lia))
theorem runs_apart (r : IsRun f n p b e) (r' : IsRun f n p' b' e') (h : ¬ (p = p' ∧ b = b' ∧ e = e')) : min e e' + Nat.gcd p p' < max b b' + p + p' := by
  apply Classical.byContradiction
  intro hc
  have hp := r.pos
  have hp' := r'.pos
  have g1 := Nat.gcd_dvd_left p p'
  have g2 := Nat.gcd_dvd_right p p'
  have g0 : 0 < Nat.gcd p p' := Nat.gcd_pos_of_pos_left _ hp
  have l1 := Nat.le_of_dvd hp g1
  have l2 := Nat.le_of_dvd hp' g2
  have Q := Per.gcd hp hp' (r.per.sub (b' := max b b') (e' := min e e') (by lia) (by lia)) (r'.per.sub (b' := max b b') (e' := min e e') (by lia) (by lia)) (by lia)
  generalize Nat.gcd p p' = g at hc g1 g2 g0 l1 l2 Q
  by_cases c1 : g < p
  · exact r.no_part Q g1 g0 c1 (by lia) (by lia) (by lia)
  by_cases c2 : g < p'
  · exact r'.no_part Q g2 g0 c2 (by lia) (by (clear c1; lia)) (by lia)
  obtain rfl : g = p := by lia
  obtain rfl : g = p' := by lia
  have := same_stretch r.per r'.per r.left r'.left r.right r'.right r.le r'.le (by omega) (by omega) (by omega) (by omega)
  exact h ⟨rfl, this.1, this.2⟩
/-- the letters, and the letters the other way round -/
noncomputable def sg (f : Nat → Int) (t : Bool) (i : Nat) : Int := if t = true then - f i else f i
theorem sg_eq {t : Bool} {i j : Nat} : sg f t i = sg f t j ↔ f i = f j := by
  unfold sg
  cases t
  · exact Iff.rfl
  · constructor <;> intro h <;> simp at h ⊢ <;> omega
theorem sg_per {t : Bool} (P : Per f b e p) : Per (sg f t) b e p := fun i h1 h2 => sg_eq.mpr (P i h1 h2)
theorem sg_not {t : Bool} {i j : Nat} : sg f (!t) i < sg f (!t) j ↔ sg f t j < sg f t i := by
  unfold sg
  cases t <;> simp <;> omega
/-- from a word that is less than its own ends on, no period is shorter -/
theorem LYN.no_per {G : Nat → Int} {q d j : Nat} (h : LYN G q (q + d)) (h0 : 0 < j) (hj : j < d) (P : Per G b e j) (hb : b ≤ q) (he : q + d ≤ e) : False := by
  obtain ⟨c, h1, h2, h3⟩ := (h.2 (q + j) (by lia) (by lia)).strict (by lia)
  have := P (q + c) (by lia) (by lia)
  rw [show q + c + j = q + j + c by (clear this; lia)] at this
  lia
/-- the turns of a run's period that are less than their own ends -/
theorem lyn_shift {G : Nat → Int} {q x : Nat} (P : Per G b e p) (hp : 0 < p) (h : LYN G q (q + p)) (hb : b ≤ q) (hx : p ∣ x) (he : q + x + p ≤ e) : LYN G (q + x) (q + x + p) := by
  have hw : ∀ i, i < p → G (q + x + i) = G (q + i) := fun i hi => by
    by_cases h0 : x = 0
    · subst h0; rfl
    · have := (P.sub (b' := q) hb (Nat.le_refl _)).mul (p := x) hx (by (clear he; lia))
      have := this (q + i) (by lia) (by lia)
      rw [← this]; congr 1; (clear this; lia)
  refine ⟨by lia, fun r r1 r2 => ?_⟩
  obtain ⟨c, h1, h2, h3⟩ := (h.2 (r - x) (by lia) (by (clear hb hx he r1; omega))).strict (by lia)
  refine .of_strict (c := c) (by lia) (by (clear h; lia)) (fun i hi => ?_) ?_
  · rw [hw i (by (clear h; lia)), show r + i = q + x + (r - x - q + i) by lia, hw _ (by (clear h; lia)), h2 i hi]; congr 1; lia
  · rw [hw c (by (clear h; lia)), show r + c = q + x + (r - x - q + c) by lia, hw _ (by (clear h; lia)), show q + (r - x - q + c) = r - x + c by (clear h3; lia)]; exact h3
theorem lyn_turns {G : Nat → Int} {q x : Nat} (P : Per G b e p) (hp : 0 < p) (h : LYN G q (q + p)) (k : LYN G (q + x) (q + x + p)) (hb : b ≤ q) (he : q + x + p ≤ e) : p ∣ x := by
  apply Classical.byContradiction
  intro hc
  have hm := Nat.mod_lt x hp
  have hj0 : 0 < x % p := Nat.pos_of_ne_zero fun e => hc (Nat.dvd_of_mod_eq_zero e)
  have hdm := Nat.div_add_mod x p
  have P' := P.sub (b' := q) hb (Nat.le_refl _)
  -- the letters, told by their places within the period
  have at0 : ∀ i, q + i < e → G (q + i) = G (q + i % p) := fun i hi => P'.mod i hi
  have at1 : ∀ i, i < p → G (q + x + i) = G (q + (x % p + i) % p) := fun i hi => by
    rw [Nat.add_assoc, at0 (x + i) (by (clear k; lia)), Nat.mod_add_mod]
  generalize x % p = j at hm hj0 at1
  obtain ⟨c, c1, c2, c3⟩ := (h.2 (q + j) (by lia) (by (clear h; lia))).strict (by lia)
  obtain ⟨d, d1, d2, d3⟩ := (k.2 (q + x + (p - j)) (by lia) (by (clear hb he hc hdm hm c1 c3; omega))).strict (by lia)
  have w : ∀ i, j + i < p → G (q + x + i) = G (q + j + i) := fun i hi => by
    rw [at1 i (by (clear hj0; lia)), Nat.mod_eq_of_lt hi, Nat.add_assoc]
  have w2 : ∀ i, p - j + i < p → G (q + x + (p - j) + i) = G (q + i) := fun i hi => by
    rw [Nat.add_assoc, at1 (p - j + i) hi, show j + (p - j + i) = i + p by lia, Nat.add_mod_right, Nat.mod_eq_of_lt (by lia)]
  rcases Nat.lt_trichotomy c d with u | u | u
  · have := d2 c u
    rw [w c (by (clear h; lia)), w2 c (by (clear k; lia))] at this
    lia
  · subst u
    rw [w c (by (clear h; lia)), w2 c (by (clear k; lia))] at d3
    lia
  · have := c2 d u
    rw [w d (by (clear h; lia)), w2 d (by (clear k; lia))] at d3
    lia
/-- each run has such a turn in its first period -/
theorem IsRun.turn (r : IsRun f n p b e) (t : Bool) : ∃ s, s < p ∧ LYN (sg f t) (b + s) (b + s + p) := by
  have hp := r.pos
  have h2 := r.two
  have hG : ∀ i, b + i < e → sg f t (b + i) = sg f t (b + i % p) := fun i hi => (sg_per r.per).mod i hi
  obtain ⟨s, s1, s2⟩ := lyn_turn (G := fun i => sg f t (b + i % p)) (p := p) (fun i => by show sg f t (b + (i + p) % p) = _; rw [Nat.add_mod_right]) hp fun j j0 j1 => by
    apply Classical.byContradiction
    intro hc
    refine r.least j j0 j1 fun i i1 i2 => ?_
    have : sg f t (b + (i - b + j) % p) = sg f t (b + (i - b) % p) := Classical.byContradiction fun q => hc ⟨i - b, q⟩
    rw [← hG _ (by (clear h2 j0 j1 this; lia)), ← hG _ (by (clear h2 j0; lia))] at this
    have := sg_eq.mp this
    rw [show b + (i - b + j) = i + j by lia, show b + (i - b) = i by lia] at this
    exact this
  refine ⟨s, s1, by lia, fun q q1 q2 => ?_⟩
  obtain ⟨c, c1, c2, c3⟩ := s2 (q - (b + s)) (by lia) (by (clear q1; omega))
  refine .of_strict (c := c) (by lia) (by lia) (fun i hi => ?_) ?_
  · have := c2 i hi
    rw [← hG _ (by lia), ← hG _ (by (clear this; lia))] at this
    rw [Nat.add_assoc, this]; congr 1; (clear this; lia)
  · rw [← hG _ (by lia), ← hG _ (by (clear c3; lia))] at c3
    rw [Nat.add_assoc, show q + c = b + (s + (q - (b + s)) + c) by (clear c3; lia)]; exact c3
end
end Mine
end
section
set_option linter.unusedVariables false
namespace Mine
section
variable {f : Nat → Int} {n p b e q o d d' b1 b2 : Nat} {t : Bool}
/-- letters, and nothing at the end -/
structure Txt (f : Nat → Int) (n : Nat) : Prop where
  pos : ∀ i, i < n → 0 < f i
  fin : f n = 0
theorem Txt.diff (T : Txt f n) (h1 : q < o) (h2 : o ≤ n) : ∃ c, o + c ≤ n ∧ (∀ i, i < c → f (q + i) = f (o + i)) ∧ f (q + c) ≠ f (o + c) := by
  obtain ⟨c, c1, c2⟩ := first_off (u := fun i => f (q + i)) (v := fun i => f (o + i)) (n - o + 1) ⟨n - o, by lia, by
    show f (q + (n - o)) ≠ f (o + (n - o))
    have := T.pos (q + (n - o)) (by lia)
    have := T.fin
    rw [show o + (n - o) = n by lia]; lia⟩
  refine ⟨c, ?_, c1, c2⟩
  apply Classical.byContradiction
  intro hc
  have e := c1 (n - o) (by lia)
  have := T.pos (q + (n - o)) (by lia)
  have := T.fin
  rw [show o + (n - o) = n by lia] at e
  lia
theorem lt_less {c : Nat} (h1 : q < o) (hc : o + c ≤ n) (he : ∀ i, i < c → f (q + i) = f (o + i)) (hl : sg f t (o + c) < sg f t (q + c)) : Lt (sg f t) (n + 1) o q :=
  ⟨c, by lia, fun i hi => sg_eq.mpr (he i hi).symm, .inr ⟨by lia, hl⟩⟩
theorem lt_more {c : Nat} (h1 : q < o) (hc : o + c ≤ n) (he : ∀ i, i < c → f (q + i) = f (o + i)) (hl : sg f t (q + c) < sg f t (o + c)) : Lt (sg f t) (n + 1) q o :=
  ⟨c, by lia, fun i hi => sg_eq.mpr (he i hi), .inr ⟨by lia, hl⟩⟩
theorem Txt.flip_less (T : Txt f n) (h1 : q < o) (h2 : o ≤ n) (h : Lt (sg f t) (n + 1) o q) : Lt (sg f (!t)) (n + 1) q o := by
  obtain ⟨c, c1, c2, c3⟩ := T.diff h1 h2
  rcases Int.lt_or_gt_of_ne (fun x => c3 (sg_eq (t := t).mp x)) with l | l
  · exact (h.asymm (lt_more h1 c1 c2 l)).elim
  · exact lt_more h1 c1 c2 (sg_not.mpr l)
theorem Txt.flip_more (T : Txt f n) (h1 : q < o) (h2 : o ≤ n) (h : Lt (sg f t) (n + 1) q o) : Lt (sg f (!t)) (n + 1) o q := by
  obtain ⟨c, c1, c2, c3⟩ := T.diff h1 h2
  rcases Int.lt_or_gt_of_ne (fun x => c3 (sg_eq (t := t).mp x)) with l | l
  · exact lt_less h1 c1 c2 (sg_not.mpr l)
  · exact (h.asymm (lt_less h1 c1 c2 l)).elim
theorem Txt.order (T : Txt f n) (r : IsRun f n p b e) : ∃ t, sg f t e < sg f t (e - p) := by
  have hp := r.pos
  have h2 := r.two
  have hn := r.le
  have hne : f e ≠ f (e - p) := by
    rcases r.right with x | x
    · rw [x, T.fin]
      have := T.pos (n - p) (by (clear x; lia))
      lia
    · exact x
  rcases Int.lt_or_gt_of_ne hne with l | l
  · exact ⟨false, l⟩
  · exact ⟨true, by show -f e < -f (e - p); (clear hne; lia)⟩
/-- a turn of a run that is less than its own ends is the way on -/
theorem IsRun.way (r : IsRun f n p b e) (ht : sg f t e < sg f t (e - p)) (h : LYN (sg f t) q (q + p)) (hb : b ≤ q) (he : q + p ≤ e) : IsN (sg f t) (n + 1) q (q + p) :=
  h.isN he (by have := r.le; lia) (fun i h1 h2 => sg_per r.per i (by (clear h; lia)) h2) (.inr ⟨by have := r.le; lia, ht⟩)
/-- the other order's way on is no period of the run -/
theorem IsRun.not_way (r : IsRun f n p b e) (ht : sg f t e < sg f t (e - p)) (h : IsN (sg f (!t)) (n + 1) q (q + p)) (hb : b ≤ q) (he : q + p ≤ e) : False := by
  have k := h.lyn.grow he (fun i h1 h2 => sg_per r.per i (by (clear h; lia)) h2) (sg_not.mpr ht)
  have := h.max k (by have := r.le; lia)
  lia
theorem one_way (h : Lt (sg f t) (n + 1) (q + 1) q) (k : IsN (sg f t) (n + 1) q (q + d)) : d = 1 := by
  have := k.lt
  apply Classical.byContradiction
  intro hd
  exact (k.mid (q + 1) (by lia) (by lia)).asymm h
theorem behind_half (T : Txt f n) (hq : q + 1 ≤ n) (h : Lt (sg f t) (n + 1) (q + 1) q) (k1 : IsN (sg f t) (n + 1) q (q + d)) (k2 : IsN (sg f (!t)) (n + 1) q (q + d')) (P1 : Per f b1 (q + d) d) (P2 : Per f b2 (q + d') d') (h1 : b1 < q) (h2 : b2 < q) : False := by
  obtain rfl := one_way h k1
  have hm := T.flip_less (by lia) hq h
  have hd := k2.lt
  have hd2 : d' ≠ 1 := fun x => by
    subst x
    rcases k2.fin with x | x
    · lia
    · exact hm.asymm x
  have e1 := P1 (q - 1) (by lia) (by lia)
  have e2 := P2 (q - 1) (by (clear h1; lia)) (by lia)
  obtain ⟨c, c1, c2, c3⟩ := (k2.lyn.2 (q + d' - 1) (by lia) (by (clear hq h2 hd e1 e2; omega))).strict (by (clear hq h1 h2 e1 e2; omega))
  obtain rfl : c = 0 := by lia
  rw [show q - 1 + 1 = q by lia] at e1
  rw [show q - 1 + d' = q + d' - 1 by (clear e2; lia)] at e2
  have : sg f (!t) q = sg f (!t) (q + d' - 1) := sg_eq.mpr (by lia)
  rw [Nat.add_zero, Nat.add_zero] at c3
  lia
/-- behind its begin a place is such a turn of one run at most -/
theorem behind_one (T : Txt f n) {t' : Bool} (hq : q + 1 ≤ n) (k1 : IsN (sg f t) (n + 1) q (q + d)) (k2 : IsN (sg f t') (n + 1) q (q + d')) (P1 : Per f b1 (q + d) d) (P2 : Per f b2 (q + d') d') (h1 : b1 < q) (h2 : b2 < q) : d = d' := by
  by_cases e : t = t'
  · subst e
    have := k1.unique k2
    lia
  · exfalso
    have e2 : t' = !t := by cases t <;> cases t' <;> simp_all
    subst e2
    rcases Lt.total (f := sg f t) (e := n + 1) (p := q) (q := q + 1) (by lia) (by lia) (by lia) with h | h
    · refine behind_half T hq (T.flip_more (by lia) hq h) k2 ?_ P2 P1 h2 h1
      rw [Bool.not_not]; exact k1
    · exact behind_half T hq h k1 k2 P1 P2 h1 h2
/-- how many such turns a run has behind its begin -/
theorem count_turns (r : IsRun f n p b e) (ht : sg f t e < sg f t (e - p)) {Q : List Nat} (hn : Q.Nodup) (hQ : ∀ q, q ∈ Q ↔ b < q ∧ q + p ≤ e ∧ LYN (sg f t) q (q + p)) : Q.length = (e - b) / p ∨ Q.length + 1 = (e - b) / p := by
  have hp := r.pos
  have h2 := r.two
  obtain ⟨s, s1, s2⟩ := r.turn t
  have P := sg_per (t := t) r.per
  have hx : ∀ q, q ∈ Q → ∃ y, q = b + s + y * p := fun q hq => by
    obtain ⟨q1, q2, q3⟩ := (hQ q).mp hq
    by_cases c : b + s ≤ q
    · obtain ⟨y, hy⟩ := lyn_turns (x := q - (b + s)) P hp s2 (by rw [show b + s + (q - (b + s)) = q by lia]; exact q3) (by lia) (by (clear ht s1; omega))
      exact ⟨y, by rw [Nat.mul_comm]; (clear ht hp h2 s1; omega)⟩
    · exfalso
      have := lyn_turns (x := b + s - q) P hp q3 (by rw [show q + (b + s - q) = b + s by lia]; exact s2) (by lia) (by (clear c; lia))
      have := Nat.le_of_dvd (by (clear this; lia)) this
      (clear ht h2 c; omega)
  have hy : ∀ y, b + s + y * p + p ≤ e → LYN (sg f t) (b + s + y * p) (b + s + y * p + p) := fun y h => lyn_shift P hp s2 (by lia) ⟨y, Nat.mul_comm _ _⟩ h
  have inj : ∀ x y : Nat, x * p = y * p → x = y := fun x y h => Nat.eq_of_mul_eq_mul_right hp h
  have hdiv : ∀ y m : Nat, y * p ≤ m ↔ y ≤ m / p := fun y m => (Nat.le_div_iff_mul_le hp).symm
  by_cases hs : s = 0
  · subst hs
    right
    have w2 : 2 ≤ (e - b) / p := (hdiv 2 _).mp (by lia)
    have a1 := inj_len (X := Q) (Y := List.range ((e - b) / p - 1)) (T := fun q y => q = b + (y + 1) * p) hn (fun q hq => by
      obtain ⟨y, rfl⟩ := hx q hq
      obtain ⟨q1, q2, _⟩ := (hQ _).mp hq
      have y0 : y ≠ 0 := fun h => by subst h; (clear s2; lia)
      have := (hdiv (y + 1) (e - b)).mp (by rw [Nat.add_one_mul]; (clear s2; lia))
      exact ⟨y - 1, List.mem_range.mpr (by (clear ht h2; omega)), by rw [show y - 1 + 1 = y by (clear s2 y0; lia), Nat.add_zero]⟩) (fun q _ q' _ y e1 e2 => e1.trans e2.symm)
    have a2 := inj_len (X := List.range ((e - b) / p - 1)) (Y := Q) (T := fun y q => q = b + (y + 1) * p) List.nodup_range (fun y hy1 => by
      have hy1 := List.mem_range.mp hy1
      have h3 := (hdiv (y + 2) (e - b)).mpr (by (clear ht h2 w2 a1; omega))
      have e3 : (y + 2) * p = (y + 1) * p + p := Nat.add_one_mul (y + 1) p
      have e4 : (y + 1) * p = y * p + p := Nat.add_one_mul y p
      refine ⟨_, (hQ _).mpr ⟨?_, ?_, ?_⟩, rfl⟩
      · lia
      · (clear hp e3; lia)
      · have := hy (y + 1) (by (clear hp s2 e3; lia))
        rw [Nat.add_zero] at this; exact this) (fun y _ y' _ q e1 e2 => by
      have := inj (y + 1) (y' + 1) (by (clear ht; lia))
      (clear e1 e2; lia))
    rw [List.length_range] at a1 a2
    lia
  · have a1 := inj_len (X := Q) (Y := List.range ((e - (b + s)) / p)) (T := fun q y => q = b + s + y * p) hn (fun q hq => by
      obtain ⟨y, rfl⟩ := hx q hq
      obtain ⟨q1, q2, _⟩ := (hQ _).mp hq
      have := (hdiv (y + 1) (e - (b + s))).mp (by rw [Nat.add_one_mul]; (clear ht s1 q1; omega))
      exact ⟨y, List.mem_range.mpr (by assumption), rfl⟩) (fun q _ q' _ y e1 e2 => e1.trans e2.symm)
    have a2 := inj_len (X := List.range ((e - (b + s)) / p)) (Y := Q) (T := fun y q => q = b + s + y * p) List.nodup_range (fun y hy1 => by
      have hy1 := List.mem_range.mp hy1
      have h3 := (hdiv (y + 1) (e - (b + s))).mpr (by assumption)
      have e4 : (y + 1) * p = y * p + p := Nat.add_one_mul y p
      exact ⟨_, (hQ _).mpr ⟨by lia, by (clear ht h2 s1 a1 hy1; omega), hy y (by (clear ht h2 a1; omega))⟩, rfl⟩) (fun y _ y' _ q e1 e2 => inj y y' (by lia))
    rw [List.length_range] at a1 a2
    have l1 : (e - (b + s)) / p ≤ (e - b) / p := Nat.div_le_div_right (by (clear ht hp h2 s1; omega))
    have l2 : (e - b) / p ≤ (e - (b + s) + p) / p := Nat.div_le_div_right (by (clear hs; lia))
    rw [Nat.add_div_right _ hp] at l2
    lia
end
end Mine
end
section
set_option linter.unusedVariables false
set_option maxRecDepth 100000
namespace Mine
open PySem
/-- the letter at a place -/
noncomputable def tx (oc : List Int) (i : Nat) : Int := oc.getD i 0
theorem tx_get {oc : List Int} {i : Nat} (hi : i < oc.length) : oc[i]? = some (tx oc i) := by
  unfold tx
  rw [List.getD_eq_getElem?_getD, List.getElem?_eq_getElem hi]; rfl
theorem tx_eq {oc : List Int} {i j : Nat} (hi : i < oc.length) (hj : j < oc.length) : oc[i]? = oc[j]? ↔ tx oc i = tx oc j := by
  rw [tx_get hi, tx_get hj, Option.some.injEq]
theorem alikeF_spec {oc : List Int} {p o : Nat} (hop : o ≤ p) : ∀ (j k : Nat), p + k + j ≤ oc.length → (∀ i, i < k → tx oc (p + i) = tx oc (o + i)) →
    k ≤ alikeF oc p o j k ∧ alikeF oc p o j k ≤ k + j ∧ (∀ i, i < alikeF oc p o j k → tx oc (p + i) = tx oc (o + i)) ∧ (alikeF oc p o j k = k + j ∨ tx oc (p + alikeF oc p o j k) ≠ tx oc (o + alikeF oc p o j k))
  | 0, k, _, h => ⟨Nat.le_refl _, Nat.le_refl _, h, .inl rfl⟩
  | j + 1, k, hl, h => by
    rw [alikeF]
    split
    · rename_i e
      rw [tx_eq (oc := oc) (i := p + k) (j := o + k) (by lia) (by lia)] at e
      obtain ⟨a, b, c, d⟩ := alikeF_spec (oc := oc) hop j (k + 1) (by lia) (fun i hi => by
        by_cases q : i = k
        · subst q; exact e
        · exact h i (by lia))
      refine ⟨by lia, by lia, c, ?_⟩
      rcases d with d | d
      · left; lia
      · right; exact d
    · rename_i e
      rw [tx_eq (oc := oc) (i := p + k) (j := o + k) (by lia) (by lia)] at e
      exact ⟨Nat.le_refl _, by lia, h, .inr e⟩
theorem lenN_spec {oc : List Int} {p o m : Nat} (hop : o ≤ p) (hp : p ≤ oc.length) : lenN oc p o m ≤ min m (oc.length - p) ∧ (∀ i, i < lenN oc p o m → tx oc (p + i) = tx oc (o + i)) ∧ (lenN oc p o m = min m (oc.length - p) ∨ tx oc (p + lenN oc p o m) ≠ tx oc (o + lenN oc p o m)) := by
  obtain ⟨a, b, c, d⟩ := alikeF_spec (oc := oc) hop (min m (oc.length - p)) 0 (by lia) (fun i hi => absurd hi (Nat.not_lt_zero _))
  unfold lenN
  exact ⟨by lia, c, by simpa using d⟩
/-- how far a repeat goes -/
theorem rep_iff {oc : List Int} {w p far k m : Nat} (h1 : 1 ≤ far) (h2 : p + far ≤ oc.length) (h3 : far ≤ w) : k ≤ repN oc w (p + far) far m ↔ k ≤ m ∧ p + far + k ≤ oc.length ∧ Per (tx oc) p (p + far + k) far := by
  unfold repN
  rw [if_neg (by (clear h2; lia)), Nat.add_sub_cancel]
  obtain ⟨l1, l2, l3⟩ := lenN_spec (oc := oc) (p := p + far) (o := p) (m := m) (Nat.le_add_right _ _) h2
  generalize lenN oc (p + far) p m = c at l1 l2 l3
  constructor
  · intro h
    refine ⟨by (clear h2; lia), by (clear h1; lia), fun i i1 i2 => ?_⟩
    have := l2 (i - p) (by lia)
    rw [show p + far + (i - p) = i + far by lia, show p + (i - p) = i by lia] at this
    exact this
  · rintro ⟨g1, g2, g3⟩
    apply Classical.byContradiction
    intro hc
    rcases l3 with l3 | l3
    · (clear h2 l1; lia)
    · apply l3
      have := g3 (p + c) (by lia) (by lia)
      rw [← this]; congr 1; (clear this; lia)
theorem take_same {oc : List Int} {p q l : Nat} (hp : p + l ≤ oc.length) (hq : q + l ≤ oc.length) : (oc.drop p).take l = (oc.drop q).take l ↔ ∀ i, i < l → tx oc (p + i) = tx oc (q + i) := by
  constructor
  · intro h i hi
    have := congrArg (fun x : List Int => x[i]?) h
    rw [List.getElem?_take_of_lt hi, List.getElem?_take_of_lt hi, List.getElem?_drop, List.getElem?_drop] at this
    exact (tx_eq (by lia) (by lia)).mp this
  · intro h
    apply List.ext_getElem?
    intro i
    by_cases hi : i < l
    · rw [List.getElem?_take_of_lt hi, List.getElem?_take_of_lt hi, List.getElem?_drop, List.getElem?_drop]
      exact (tx_eq (by lia) (by lia)).mpr (h i hi)
    · rw [List.getElem?_eq_none (by rw [List.length_take]; lia), List.getElem?_eq_none (by rw [List.length_take]; lia)]
end Mine
end
section
set_option linter.unusedVariables false
set_option maxRecDepth 100000
namespace Mine
open PySem PyProof.Rows
section
variable {oc : List Int} {w p b e q : Nat}
theorem txt_of (h : Lets oc) : Txt (tx oc) oc.length where
  pos := fun i hi => by
    have := h (tx oc i) (by
      unfold tx
      rw [List.getD_eq_getElem?_getD, List.getElem?_eq_getElem hi]; exact List.getElem_mem _)
    lia
  fin := by
    unfold tx
    rw [List.getD_eq_getElem?_getD, List.getElem?_eq_none (Nat.le_refl _)]; rfl
/-- how far a period goes on from a place -/
theorem end_spec (h1 : 1 ≤ p) (h2 : b + p ≤ oc.length) (h3 : p ≤ w) : b + p ≤ endN oc w p b ∧ endN oc w p b ≤ oc.length ∧ Per (tx oc) b (endN oc w p b) p ∧ (endN oc w p b = oc.length ∨ tx oc (endN oc w p b) ≠ tx oc (endN oc w p b - p)) := by
  have g := fun k => rep_iff (oc := oc) (w := w) (p := b) (far := p) (k := k) (m := oc.length) h1 h2 h3
  unfold endN
  generalize repN oc w (b + p) p oc.length = c at g
  obtain ⟨_, g2, g3⟩ := (g c).mp (Nat.le_refl _)
  refine ⟨by (clear g3; lia), g2, g3, ?_⟩
  by_cases hn : b + p + c = oc.length
  · exact .inl hn
  · right
    intro he
    have := (g (c + 1)).mpr ⟨by (clear h2 g hn; lia), by (clear g3; lia), fun i i1 i2 => by
      by_cases hi : i + p = b + p + c
      · rw [hi, he]; congr 1; (clear h1 h3 he; omega)
      · exact g3 i i1 (by lia)⟩
    lia
theorem ahead_iff (h1 : 1 ≤ p) (h2 : b + p ≤ oc.length) (h3 : p ≤ w) : aheadB oc w p b = true ↔ 0 < b ∧ tx oc (b - 1) = tx oc (b - 1 + p) := by
  unfold aheadB
  rw [Bool.and_eq_true, decide_eq_true_iff, decide_eq_true_iff]
  refine and_congr_right fun hb => ?_
  have g := fun k => rep_iff (oc := oc) (w := w) (p := b - 1) (far := p) (k := k) (m := 1) h1 (by lia) h3
  rw [show b + p - 1 = b - 1 + p by lia]
  generalize repN oc w (b - 1 + p) p 1 = c at g
  have gc := ((g c).mp (Nat.le_refl _)).1
  constructor
  · intro e
    exact (((g 1).mp (by lia)).2.2 (b - 1) (Nat.le_refl _) (by lia)).symm
  · intro e
    have := (g 1).mpr ⟨Nat.le_refl _, by (clear e; lia), fun i i1 i2 => by rw [show i = b - 1 by (clear e; lia)]; exact e.symm⟩
    lia
theorem less_iff {far : Nat} (h1 : 1 ≤ far) (h2 : b + far ≤ endN oc w p b) (h3 : far ≤ w) (hn : endN oc w p b ≤ oc.length) : lessAt oc w p b far = true ↔ Per (tx oc) b (endN oc w p b) far := by
  unfold lessAt
  rw [decide_eq_true_iff, Int.toNat_natCast]
  have g := rep_iff (oc := oc) (w := w) (p := b) (far := far) (k := endN oc w p b - (b + far)) (m := oc.length) h1 (by lia) h3
  rw [show b + far + (endN oc w p b - (b + far)) = endN oc w p b by (clear h1 h3 hn; omega)] at g
  constructor
  · intro h
    exact (g.mp (by (clear h2 h3 hn; omega))).2.2
  · intro h
    have := g.mpr ⟨by (clear h1; lia), hn, h⟩
    (clear h2; lia)
theorem run_iff (hw : oc.length - 1 ≤ w) (h1 : 1 ≤ p) (h2 : b + 2 * p ≤ oc.length) : runB oc w p b = true ↔ IsRun (tx oc) oc.length p b (endN oc w p b) := by
  obtain ⟨e1, e2, e3, e4⟩ := end_spec (oc := oc) (w := w) (p := p) (b := b) h1 (by (clear h1; lia)) (by lia)
  have ha := ahead_iff (oc := oc) (w := w) (p := p) (b := b) h1 (by (clear hw h2; lia)) (by lia)
  have hl := fun far h1 h2 => less_iff (oc := oc) (w := w) (p := p) (b := b) (far := far) h1 h2
  unfold runB
  rw [Bool.and_eq_true, Bool.and_eq_true, decide_eq_true_iff, Bool.not_eq_true', Bool.not_eq_true', ← Bool.not_eq_true, ha, List.any_eq_false]
  constructor
  · rintro ⟨k1, k2, k3⟩
    refine ⟨h1, k2, e2, e3, ?_, e4, fun j j0 j1 P => ?_⟩
    · by_cases hb : b = 0
      · exact .inl hb
      · exact .inr fun q => k1 ⟨by (clear q; lia), q⟩
    · refine k3 (j : Int) (mem_upto.mpr (by (clear hw; lia))) ?_
      exact (hl j j0 (by (clear k2; lia)) (by (clear j0; lia)) e2).mpr P
  · intro r
    refine ⟨fun ⟨b0, q⟩ => ?_, r.two, fun x hx q => ?_⟩
    · rcases r.left with x | x
      · lia
      · exact x q
    · have hx := mem_upto.mp hx
      obtain ⟨j, rfl⟩ := Int.eq_ofNat_of_zero_le (show 0 ≤ x by lia)
      exact r.least j (by (clear hw; omega)) (by (clear hw h1; omega)) ((hl j (by lia) (by lia) (by (clear h2 ha; lia)) e2).mp q)
theorem mem_rowRuns {r : Run} {j : Nat} : r ∈ rowRuns oc w p j ↔ ∃ b, b < j ∧ runB oc w p b = true ∧ r = (p, b, endN oc w p b) := by
  unfold rowRuns
  rw [List.mem_map]
  constructor
  · rintro ⟨b, h1, h2⟩
    obtain ⟨h3, h4⟩ := List.mem_filter.mp h1
    exact ⟨b, List.mem_range.mp h3, h4, h2.symm⟩
  · rintro ⟨b, h1, h2, h3⟩
    exact ⟨b, List.mem_filter.mpr ⟨List.mem_range.mpr h1, h2⟩, h3.symm⟩
theorem mem_allRuns {r : Run} (hw : oc.length - 1 ≤ w) : r ∈ allRuns oc w (oc.length / 2 + 1) ↔ IsRun (tx oc) oc.length r.1 r.2.1 r.2.2 := by
  unfold allRuns
  rw [List.mem_flatMap]
  constructor
  · rintro ⟨p, h1, h2⟩
    have h1 := List.mem_range.mp h1
    by_cases h0 : p = 0
    · rw [if_pos h0] at h2; cases h2
    · rw [if_neg h0] at h2
      obtain ⟨b, h3, h4, rfl⟩ := mem_rowRuns.mp h2
      have hb : b + 2 * p ≤ oc.length := by lia
      exact (run_iff hw (by lia) hb).mp h4
  · intro h
    obtain ⟨p, b, e⟩ := r
    dsimp only at h
    have h1 := h.pos
    have h2 := h.two
    have h3 := h.le
    obtain ⟨e1, e2, e3, e4⟩ := end_spec (oc := oc) (w := w) (p := p) (b := b) h1 (by (clear hw h1; lia)) (by lia)
    have he : e = endN oc w p b := by
      rcases Nat.lt_trichotomy e (endN oc w p b) with x | x | x
      · exact (right_stop e3 h.right x e2 (by (clear h1; lia))).elim
      · exact x
      · exact (right_stop h.per e4 x h3 e1).elim
    subst he
    refine ⟨p, List.mem_range.mpr (by (clear e1; lia)), ?_⟩
    rw [if_neg (by lia)]
    exact mem_rowRuns.mpr ⟨b, by lia, (run_iff hw h1 (by (clear e1; lia))).mpr h, rfl⟩
theorem row_bound {r : Run} (hp : 2 * p ≤ oc.length) (h : r ∈ rowRuns oc w p (oc.length - 2 * p + 1)) : r.1 = p ∧ r.2.1 ≤ oc.length ∧ r.2.2 ≤ oc.length := by
  obtain ⟨b, h1, _, rfl⟩ := mem_rowRuns.mp h
  have := repN_le oc w (b + p) p oc.length
  refine ⟨rfl, ?_, ?_⟩
  · show b ≤ _
    (clear hp this; omega)
  · show endN oc w p b ≤ _
    unfold endN; omega
/-- the row of the runs goes up -/
theorem allRuns_up (h16 : oc.length ≤ 16) : ∀ k, k ≤ oc.length / 2 + 1 → (allRuns oc w k).Pairwise (fun x y => numT x < numT y) ∧ ∀ r ∈ allRuns oc w k, r.1 < k ∧ r.2.1 ≤ 16 ∧ r.2.2 ≤ 16 := by
  intro k
  induction k with
  | zero => exact fun _ => ⟨List.Pairwise.nil, fun r h => nomatch h⟩
  | succ k ih =>
    intro hk2
    obtain ⟨ih1, ih2⟩ := ih (by lia)
    by_cases hk : k = 0
    · subst hk; exact ⟨List.Pairwise.nil, fun r h => nomatch h⟩
    rw [allRuns_succ oc w k (by (clear hk2; lia)), List.pairwise_append]
    have hb := fun r h => row_bound (oc := oc) (w := w) (p := k) (r := r) (by lia) h
    refine ⟨⟨ih1, ?_, fun x hx y hy => ?_⟩, fun r h => ?_⟩
    · unfold rowRuns at hb ⊢
      rw [List.pairwise_map]
      refine (List.Pairwise.and_mem.mp (List.pairwise_lt_range.filter _)).imp fun {a b} ⟨ha, hb2, hab⟩ => ?_
      have h1 := hb _ (List.mem_map.mpr ⟨a, ha, rfl⟩)
      have h2 := hb _ (List.mem_map.mpr ⟨b, hb2, rfl⟩)
      dsimp only at h1 h2
      unfold numT
      dsimp only
      lia
    · have h1 := ih2 x hx
      have h2 := hb y hy
      unfold numT
      lia
    · rcases List.mem_append.mp h with h | h
      · have := ih2 r h; lia
      · have := hb r h; lia
theorem numT_ext : ∀ {a b : List Run}, a.Pairwise (fun x y => numT x < numT y) → b.Pairwise (fun x y => numT x < numT y) → (∀ x, x ∈ a ↔ x ∈ b) → a = b
  | [], [], _, _, _ => rfl
  | [], y :: b, _, _, h => nomatch (h y).mpr (.head _)
  | x :: a, [], _, _, h => nomatch (h x).mp (.head _)
  | x :: a, y :: b, ha, hb, h => by
    rw [List.pairwise_cons] at ha hb
    have e : x = y := by
      rcases List.mem_cons.mp ((h x).mp (.head _)) with e | e
      · exact e
      · rcases List.mem_cons.mp ((h y).mpr (.head _)) with e2 | e2
        · exact e2.symm
        · have h1 := ha.1 y e2
          have h2 := hb.1 x e
          lia
    subst e
    rw [numT_ext ha.2 hb.2 fun z => ?_]
    constructor
    · intro hz
      rcases List.mem_cons.mp ((h z).mp (.tail _ hz)) with e | e
      · subst e
        exact absurd (ha.1 z hz) (Int.lt_irrefl _)
      · exact e
    · intro hz
      rcases List.mem_cons.mp ((h z).mpr (.tail _ hz)) with e | e
      · subst e
        exact absurd (hb.1 z hz) (Int.lt_irrefl _)
      · exact e
theorem up_nodup {L : List Run} (h : L.Pairwise fun x y => numT x < numT y) : L.Nodup := h.imp fun h e => by
  rw [e] at h; exact absurd h (Int.lt_irrefl _)
/-- what this law itself finds -/
theorem per_iff {far : Nat} (h1 : b + far ≤ e) (h2 : e ≤ oc.length) : perAt oc b e far = true ↔ Per (tx oc) b e far := by
  unfold perAt
  rw [decide_eq_true_iff, Int.toNat_natCast, take_same (by lia) (by lia)]
  constructor
  · intro h i i1 i2
    have := h (i - b) (by lia)
    rw [show b + (i - b) = i by lia, show b + far + (i - b) = i + far by lia] at this
    exact this.symm
  · intro h i hi
    have := h (b + i) (Nat.le_add_right _ _) (by (clear h1 h2; omega))
    rw [← this]; congr 1; (clear this; lia)
theorem head_least {P : Int → Bool} : ∀ (m : Nat) (a : Int) (far : Int) (rest : List Int), (upto a m).filter P = far :: rest → P far = true ∧ a ≤ far ∧ far < a + m ∧ ∀ x, a ≤ x → x < far → P x = false
  | 0, a, far, rest, h => by cases h
  | m + 1, a, far, rest, h => by
    rw [upto_succ, List.filter_cons] at h
    cases hP : P a with
    | true =>
      rw [hP, if_pos rfl] at h
      cases h
      exact ⟨hP, Int.le_refl _, by lia, fun x h1 h2 => by lia⟩
    | false =>
      rw [hP, if_neg (by decide)] at h
      obtain ⟨h1, h2, h3, h4⟩ := head_least m (a + 1) far rest h
      refine ⟨h1, by (clear h; lia), by lia, fun x x1 x2 => ?_⟩
      by_cases e : x = a
      · subst e; exact hP
      · exact h4 x (by lia) x2
theorem ownAt_iff {r : Run} (h1 : b + 2 ≤ e) (h2 : e ≤ oc.length) : ownAt oc b e = some r ↔ r.2.1 = b ∧ r.2.2 = e ∧ IsRun (tx oc) oc.length r.1 b e := by
  have hg : ∀ f : Nat, 1 ≤ f → b + f ≤ e → (goesB oc b f = false ↔ b = 0 ∨ tx oc (b - 1) ≠ tx oc (b - 1 + f)) := fun f f0 f1 => by
    unfold goesB
    rw [Bool.and_eq_false_iff, decide_eq_false_iff_not, decide_eq_false_iff_not]
    by_cases hb : b = 0
    · simp [hb]
    · rw [show b + f - 1 = b - 1 + f by (clear h1; lia)]
      constructor
      · rintro (x | x)
        · lia
        · exact .inr x
      · rintro (x | x)
        · lia
        · exact .inr x
  have he : ∀ f : Nat, (endsB oc e f = true ↔ e = oc.length ∨ tx oc e ≠ tx oc (e - f)) := fun f => by
    unfold endsB
    rw [Bool.or_eq_true, decide_eq_true_iff, decide_eq_true_iff]; exact Iff.rfl
  unfold ownAt
  cases hp : persOf oc b e with
  | nil =>
    constructor
    · intro h; cases h
    · rintro ⟨_, _, h⟩
      have := h.pos
      have := h.two
      have hm : (r.1 : Int) ∈ persOf oc b e := by
        unfold persOf
        exact List.mem_filter.mpr ⟨mem_upto.mpr (by lia), (per_iff (by lia) h2).mpr h.per⟩
      rw [hp] at hm; cases hm
  | cons far rest =>
    unfold persOf at hp
    obtain ⟨k1, k2, k3, k4⟩ := head_least _ _ _ _ hp
    obtain ⟨f, rfl⟩ := Int.eq_ofNat_of_zero_le (show 0 ≤ far by lia)
    have P := (per_iff (by (clear k2; lia)) h2).mp k1
    have hleast : ∀ j : Nat, 0 < j → j < f → ¬ Per (tx oc) b e j := fun j j0 j1 Q => by
      have := k4 j (by lia) (by lia)
      rw [(per_iff (by lia) h2).mpr Q] at this; cases this
    show (if (!goesB oc b f && endsB oc e f) = true then some (f, b, e) else none) = some r ↔ _
    constructor
    · intro h
      split at h
      · rename_i hc
        cases h
        rw [Bool.and_eq_true, Bool.not_eq_true', hg f (by lia) (by (clear k2; lia)), he] at hc
        exact ⟨rfl, rfl, by lia, by show b + 2 * f ≤ e; (clear h1 hp; lia), h2, P, hc.1, hc.2, hleast⟩
      · cases h
    · rintro ⟨e1, e2, h⟩
      have hf : r.1 = f := by
        have h0 := h.pos
        rcases Nat.lt_trichotomy r.1 f with x | x | x
        · exact (hleast _ h0 x h.per).elim
        · exact x
        · exact (h.least f (by lia) x P).elim
      obtain ⟨r1, r2, r3⟩ := r
      dsimp only at e1 e2 hf h
      subst e1 e2 hf
      rw [if_pos]
      rw [Bool.and_eq_true, Bool.not_eq_true', hg _ (by lia) (by (clear k2; lia)), he]
      exact ⟨h.left, h.right⟩
theorem mem_ownAll {r : Run} : r ∈ ownAll oc (oc.length - 1) ↔ IsRun (tx oc) oc.length r.1 r.2.1 r.2.2 := by
  unfold ownAll ownTo
  rw [List.mem_flatMap]
  constructor
  · rintro ⟨b, h1, h2⟩
    have h1 := List.mem_range.mp h1
    obtain ⟨k, h3, h4⟩ := List.mem_filterMap.mp h2
    have h3 := List.mem_range.mp h3
    obtain ⟨e1, e2, h⟩ := (ownAt_iff (by (clear h4; lia)) (by (clear h1; omega))).mp h4
    rw [e1, e2]; exact h
  · intro h
    have h1 := h.pos
    have h2 := h.two
    have h3 := h.le
    refine ⟨r.2.1, List.mem_range.mpr (by lia), List.mem_filterMap.mpr ⟨r.2.2 - r.2.1 - 2, List.mem_range.mpr (by lia), ?_⟩⟩
    rw [show r.2.1 + 2 + (r.2.2 - r.2.1 - 2) = r.2.2 by lia]
    exact (ownAt_iff (by lia) h3).mpr ⟨rfl, rfl, h⟩
theorem ownAll_nodup : (ownAll oc (oc.length - 1)).Nodup := by
  unfold ownAll ownTo
  show List.Pairwise _ _
  rw [List.pairwise_flatMap]
  refine ⟨fun b hb => ?_, (List.Pairwise.and_mem.mp List.pairwise_lt_range).imp fun {a c} ⟨ha, hc, hac⟩ x hx y hy e => ?_⟩
  · have hb := List.mem_range.mp hb
    rw [List.pairwise_filterMap]
    refine (List.Pairwise.and_mem.mp List.pairwise_lt_range).imp fun {i j} ⟨hi, hj, hij⟩ x hx y hy e => ?_
    have hi := List.mem_range.mp hi
    have hj := List.mem_range.mp hj
    have h1 := (ownAt_iff (by (clear hx; lia)) (by (clear hb hj; omega))).mp hx
    have h2 := (ownAt_iff (by (clear hy; lia)) (by (clear hb h1; omega))).mp hy
    subst e
    lia
  · have ha := List.mem_range.mp ha
    have hc := List.mem_range.mp hc
    obtain ⟨i, hi, h1⟩ := List.mem_filterMap.mp hx
    obtain ⟨j, hj, h2⟩ := List.mem_filterMap.mp hy
    have hi := List.mem_range.mp hi
    have hj := List.mem_range.mp hj
    have h1 := (ownAt_iff (by (clear h1; lia)) (by (clear hj; omega))).mp h1
    have h2 := (ownAt_iff (by (clear h2; lia)) (by (clear hi h1; omega))).mp h2
    subst e
    lia
end
end Mine
end
section
set_option linter.unusedVariables false
set_option maxRecDepth 100000
namespace Mine
open PySem PyProof.Rows
section
variable {oc : List Int} {w p b e q : Nat}
theorem turn_spec {o : Nat} (T : Txt (tx oc) oc.length) (h1 : q < o) (h2 : o ≤ oc.length) (hw : oc.length - 1 ≤ w) :
    (turnB oc w q o = false → Lt (sg (tx oc) false) (oc.length + 1) o q ∧ Lt (sg (tx oc) true) (oc.length + 1) q o) ∧ (turnB oc w q o = true → Lt (sg (tx oc) false) (oc.length + 1) q o ∧ Lt (sg (tx oc) true) (oc.length + 1) o q) := by
  have key : ∃ c, repN oc w o (o - q) oc.length = c ∧ o + c ≤ oc.length ∧ (∀ i, i < c → tx oc (q + i) = tx oc (o + i)) ∧ (o + c < oc.length → tx oc (q + c) ≠ tx oc (o + c)) := by
    by_cases ho : o = oc.length
    · have := repN_le oc w o (o - q) oc.length
      exact ⟨0, by lia, by omega, fun i hi => by lia, fun hi => by lia⟩
    · have g := fun k => rep_iff (oc := oc) (w := w) (p := q) (far := o - q) (k := k) (m := oc.length) (by lia) (by (clear ho; lia)) (by lia)
      rw [show q + (o - q) = o by lia] at g
      refine ⟨_, rfl, ?_⟩
      generalize repN oc w o (o - q) oc.length = c at g
      obtain ⟨_, g2, g3⟩ := (g c).mp (Nat.le_refl _)
      have hall : ∀ i, i < c → tx oc (q + i) = tx oc (o + i) := fun i hi => by
        have := g3 (q + i) (Nat.le_add_right _ _) (by lia)
        rw [← this]; congr 1; lia
      refine ⟨g2, hall, fun hlt e => ?_⟩
      have := (g (c + 1)).mpr ⟨by lia, by assumption, fun i i1 i2 => by
        by_cases hi : i = q + c
        · subst hi
          rw [e]; congr 1; (clear i2; lia)
        · exact g3 i i1 (by lia)⟩
      lia
  obtain ⟨c, hc, c1, c2, c3⟩ := key
  have ht : turnB oc w q o = !(decide (oc.length ≤ o + c) || decide (tx oc (o + c) < tx oc (q + c))) := by
    unfold turnB
    rw [hc]; rfl
  rw [ht]
  have hfin : oc.length ≤ o + c → tx oc (o + c) < tx oc (q + c) := fun h => by
    have := T.pos (q + c) (by (clear h; lia))
    have := T.fin
    rw [show o + c = oc.length by lia]; lia
  constructor
  · intro h
    have hl : tx oc (o + c) < tx oc (q + c) := by
      rw [Bool.not_eq_false', Bool.or_eq_true, decide_eq_true_iff, decide_eq_true_iff] at h
      exact h.elim hfin id
    exact ⟨lt_less h1 c1 c2 hl, lt_more h1 c1 c2 (by show -_ < -_; lia)⟩
  · intro h
    rw [Bool.not_eq_true', Bool.or_eq_false_iff, decide_eq_false_iff_not, decide_eq_false_iff_not] at h
    have := c3 (by (clear h1 hw hc; omega))
    exact ⟨lt_more h1 c1 c2 (by show tx _ _ < tx _ _; (clear c3; lia)), lt_less h1 c1 c2 (by show -_ < -_; (clear c3; lia))⟩
/-- the first other place of each kind -/
theorem waysTo_spec (oc : List Int) (w q : Nat) : ∀ k,
    ((∀ j, j < k → turnB oc w q (q + 1 + j) = true) ∧ (waysTo oc w q k).1 = 0 ∨ ∃ j, j < k ∧ (waysTo oc w q k).1 = j + 1 ∧ turnB oc w q (q + 1 + j) = false ∧ ∀ i, i < j → turnB oc w q (q + 1 + i) = true) ∧
    ((∀ j, j < k → turnB oc w q (q + 1 + j) = false) ∧ (waysTo oc w q k).2 = 0 ∨ ∃ j, j < k ∧ (waysTo oc w q k).2 = j + 1 ∧ turnB oc w q (q + 1 + j) = true ∧ ∀ i, i < j → turnB oc w q (q + 1 + i) = false)
  | 0 => ⟨.inl ⟨fun j hj => absurd hj (Nat.not_lt_zero _), rfl⟩, .inl ⟨fun j hj => absurd hj (Nat.not_lt_zero _), rfl⟩⟩
  | k + 1 => by
    obtain ⟨h1, h2⟩ := waysTo_spec oc w q k
    have all : ∀ {v : Bool}, (∀ j, j < k → turnB oc w q (q + 1 + j) = v) → turnB oc w q (q + 1 + k) = v → ∀ j, j < k + 1 → turnB oc w q (q + 1 + j) = v := fun h h' j hj => by
      by_cases e : j = k
      · subst e; exact h'
      · exact h j (by lia)
    cases ht : turnB oc w q (q + 1 + k) with
    | true =>
      have e : waysTo oc w q (k + 1) = ((waysTo oc w q k).1, if (waysTo oc w q k).2 = 0 then k + 1 else (waysTo oc w q k).2) := by
        conv => lhs; unfold waysTo
        rw [ht, if_pos rfl]
      rw [e]
      refine ⟨?_, ?_⟩
      · rcases h1 with ⟨a, a2⟩ | ⟨j, j1, j2⟩
        · exact .inl ⟨all a ht, a2⟩
        · exact .inr ⟨j, by lia, j2⟩
      · right
        rcases h2 with ⟨a, a2⟩ | ⟨j, j1, j2, j3⟩
        · exact ⟨k, by lia, if_pos a2, ht, a⟩
        · exact ⟨j, by lia, by dsimp only; rw [if_neg (by lia)]; exact j2, j3⟩
    | false =>
      have e : waysTo oc w q (k + 1) = (if (waysTo oc w q k).1 = 0 then k + 1 else (waysTo oc w q k).1, (waysTo oc w q k).2) := by
        conv => lhs; unfold waysTo
        rw [ht, if_neg (by decide)]
      rw [e]
      refine ⟨?_, ?_⟩
      · right
        rcases h1 with ⟨a, a2⟩ | ⟨j, j1, j2, j3⟩
        · exact ⟨k, by lia, if_pos a2, ht, a⟩
        · exact ⟨j, by lia, by dsimp only; rw [if_neg (by lia)]; exact j2, j3⟩
      · rcases h2 with ⟨a, a2⟩ | ⟨j, j1, j2⟩
        · exact .inl ⟨all a ht, a2⟩
        · exact .inr ⟨j, by lia, j2⟩
theorem first_isN {G : Nat → Int} {n k d : Nat} (hk : q + k ≤ n) (h : (∀ j, j < k → Lt G (n + 1) q (q + 1 + j)) ∧ d = 0 ∨ ∃ j, j < k ∧ d = j + 1 ∧ Lt G (n + 1) (q + 1 + j) q ∧ ∀ i, i < j → Lt G (n + 1) q (q + 1 + i)) (hd : 0 < d) : IsN G (n + 1) q (q + d) := by
  rcases h with ⟨_, h⟩ | ⟨j, j1, rfl, j2, j3⟩
  · lia
  · refine ⟨by lia, by lia, fun o o1 o2 => ?_, .inr (by rw [show q + (j + 1) = q + 1 + j by (clear j2; lia)]; exact j2)⟩
    have := j3 (o - (q + 1)) (by (clear hk; omega))
    rw [show q + 1 + (o - (q + 1)) = o by (clear hk; omega)] at this
    exact this
theorem isN_first {G : Nat → Int} {n k d x : Nat} (hk : q + k = n) (h : (∀ j, j < k → Lt G (n + 1) q (q + 1 + j)) ∧ d = 0 ∨ ∃ j, j < k ∧ d = j + 1 ∧ Lt G (n + 1) (q + 1 + j) q ∧ ∀ i, i < j → Lt G (n + 1) q (q + 1 + i)) (hx : IsN G (n + 1) q (q + x)) (hn : q + x ≤ n) : d = x := by
  have hl := hx.lt
  rcases h with ⟨h, _⟩ | h
  · exfalso
    have := h (x - 1) (by lia)
    rw [show q + 1 + (x - 1) = q + x by (clear this; lia)] at this
    rcases hx.fin with y | y
    · (clear hk; lia)
    · exact this.asymm y
  · have h0 : 0 < d := by obtain ⟨j, _, e, _⟩ := h; lia
    have := (first_isN (by lia) (.inr h) h0).unique hx
    lia
theorem mem_waysL {d : Nat} (T : Txt (tx oc) oc.length) (hw : oc.length - 1 ≤ w) (hq : q ≤ oc.length) : d ∈ waysL oc w q ↔ ∃ t, IsN (sg (tx oc) t) (oc.length + 1) q (q + d) ∧ q + d ≤ oc.length := by
  obtain ⟨s1, s2⟩ := waysTo_spec oc w q (oc.length - q)
  have hle := waysTo_le oc w q (oc.length - q)
  have hqe : q + (oc.length - q) = oc.length := by (clear s1 s2; lia)
  have hw1 : q + (waysTo oc w q (oc.length - q)).1 ≤ oc.length := by (clear s1 s2; lia)
  have hw2 : q + (waysTo oc w q (oc.length - q)).2 ≤ oc.length := by (clear s1 s2; lia)
  have tu := fun j (hj : j < oc.length - q) => turn_spec (oc := oc) (w := w) (q := q) (o := q + 1 + j) T (by lia) (by (clear hw hq; lia)) hw
  have f1 : (∀ j, j < oc.length - q → Lt (sg (tx oc) false) (oc.length + 1) q (q + 1 + j)) ∧ (waysTo oc w q (oc.length - q)).1 = 0 ∨ ∃ j, j < oc.length - q ∧ (waysTo oc w q (oc.length - q)).1 = j + 1 ∧ Lt (sg (tx oc) false) (oc.length + 1) (q + 1 + j) q ∧ ∀ i, i < j → Lt (sg (tx oc) false) (oc.length + 1) q (q + 1 + i) :=
    s1.imp (fun ⟨a, b⟩ => ⟨fun j hj => ((tu j hj).2 (a j hj)).1, b⟩) fun ⟨j, a, b, c, d⟩ => ⟨j, a, b, ((tu j a).1 c).1, fun i hi => ((tu i (by (clear hqe b; lia))).2 (d i hi)).1⟩
  have f2 : (∀ j, j < oc.length - q → Lt (sg (tx oc) true) (oc.length + 1) q (q + 1 + j)) ∧ (waysTo oc w q (oc.length - q)).2 = 0 ∨ ∃ j, j < oc.length - q ∧ (waysTo oc w q (oc.length - q)).2 = j + 1 ∧ Lt (sg (tx oc) true) (oc.length + 1) (q + 1 + j) q ∧ ∀ i, i < j → Lt (sg (tx oc) true) (oc.length + 1) q (q + 1 + i) :=
    s2.imp (fun ⟨a, b⟩ => ⟨fun j hj => ((tu j hj).1 (a j hj)).2, b⟩) fun ⟨j, a, b, c, d⟩ => ⟨j, a, b, ((tu j a).2 c).2, fun i hi => ((tu i (by (clear hqe b; lia))).1 (d i hi)).2⟩
  clear s1 s2 tu
  unfold waysL
  rw [List.mem_filter, List.mem_cons, List.mem_singleton, decide_eq_true_iff]
  constructor
  · rintro ⟨rfl | rfl, h0⟩
    · exact ⟨false, first_isN (Nat.le_of_eq hqe) f1 h0, hw1⟩
    · exact ⟨true, first_isN (Nat.le_of_eq hqe) f2 h0, hw2⟩
  · rintro ⟨t, h1, h2⟩
    have := h1.lt
    refine ⟨?_, by (clear f1 f2; lia)⟩
    cases t
    · exact .inl (isN_first hqe f1 h1 h2).symm
    · exact .inr (isN_first hqe f2 h1 h2).symm
/-- the stretch about a place -/
theorem back_spec (h1 : 1 ≤ p) (h3 : p ≤ w) : ∀ q, q + p ≤ oc.length → backF oc w p q ≤ q ∧ (∀ i, backF oc w p q ≤ i → i < q → tx oc (i + p) = tx oc i) ∧ (backF oc w p q = 0 ∨ tx oc (backF oc w p q - 1) ≠ tx oc (backF oc w p q - 1 + p))
  | 0, _ => ⟨Nat.le_refl _, fun i _ hi => by lia, .inl rfl⟩
  | q + 1, hq => by
    have ha := ahead_iff (oc := oc) (w := w) (p := p) (b := q + 1) h1 hq h3
    obtain ⟨k1, k2, k3⟩ := back_spec h1 h3 q (by lia)
    unfold backF
    by_cases hb : aheadB oc w p (q + 1) = true
    · rw [if_pos hb]
      refine ⟨by lia, fun i i1 i2 => ?_, k3⟩
      by_cases e : i = q
      · subst e; exact (ha.mp hb).2.symm
      · exact k2 i i1 (by lia)
    · rw [if_neg hb]
      refine ⟨Nat.le_refl _, fun i i1 i2 => by lia, .inr fun e => hb (ha.mpr ⟨by (clear e; lia), e⟩)⟩
theorem about_spec (h1 : 1 ≤ p) (h3 : p ≤ w) (hq : q + p ≤ oc.length) : backF oc w p q ≤ q ∧ q + p ≤ endN oc w p (backF oc w p q) ∧ endN oc w p (backF oc w p q) ≤ oc.length ∧ Per (tx oc) (backF oc w p q) (endN oc w p (backF oc w p q)) p ∧
    (backF oc w p q = 0 ∨ tx oc (backF oc w p q - 1) ≠ tx oc (backF oc w p q - 1 + p)) ∧ (endN oc w p (backF oc w p q) = oc.length ∨ tx oc (endN oc w p (backF oc w p q)) ≠ tx oc (endN oc w p (backF oc w p q) - p)) := by
  obtain ⟨k1, k2, k3⟩ := back_spec (oc := oc) h1 h3 q hq
  generalize backF oc w p q = b at k1 k2 k3 ⊢
  obtain ⟨e1, e2, e3, e4⟩ := end_spec (oc := oc) (w := w) (p := p) (b := b) h1 (by lia) h3
  refine ⟨k1, ?_, e2, e3, k3, e4⟩
  apply Classical.byContradiction
  intro hc
  rcases e4 with x | x
  · lia
  · have := k2 (endN oc w p b - p) (by lia) (by (clear h3 hq; omega))
    rw [show endN oc w p b - p + p = endN oc w p b by (clear this; lia)] at this
    exact x this
/-- what a mark is -/
structure IsMark (oc : List Int) (q : Nat) (t : Bool) (p b e : Nat) : Prop where
  run : IsRun (tx oc) oc.length p b e
  way : IsN (sg (tx oc) t) (oc.length + 1) q (q + p)
  ge : b ≤ q
  le : q + p ≤ e
theorem mem_marks {m : Mark} (T : Txt (tx oc) oc.length) (hw : oc.length - 1 ≤ w) : m ∈ allMarks oc w oc.length ↔ ∃ t, IsMark oc m.1 t m.2.1 m.2.2.1 m.2.2.2 := by
  unfold allMarks marksAt
  rw [List.mem_flatMap]
  constructor
  · rintro ⟨q, h1, h2⟩
    have hq := List.mem_range.mp h1
    obtain ⟨d, h3, h4⟩ := List.mem_filterMap.mp h2
    obtain ⟨t, h5, h6⟩ := (mem_waysL T hw (by lia)).mp h3
    have h7 := h5.lt
    unfold markOf aboutR at h4
    dsimp only at h4
    split at h4
    · rename_i h8
      cases h4
      have hd : d ≤ w := by
        have := repN_le oc w (backF oc w d q + d) d oc.length
        have := backF_le oc w d q
        unfold endN at h8
        (clear h7; lia)
      obtain ⟨k1, k2, k3, k4, k5, k6⟩ := about_spec (oc := oc) (w := w) (p := d) (q := q) (by lia) hd h6
      generalize endN oc w d (backF oc w d q) = e at h8 k2 k3 k4 k6 ⊢
      generalize backF oc w d q = b at h8 k1 k4 k5 ⊢
      refine ⟨t, ⟨by show 0 < d; lia, by show b + 2 * d ≤ e; lia, k3, k4, k5, k6, fun j j0 j1 P => ?_⟩, h5, k1, k2⟩
      exact h5.lyn.no_per j0 j1 (sg_per P) k1 k2
    · cases h4
  · rintro ⟨t, M⟩
    obtain ⟨q, p, b, e⟩ := m
    have r := M.run
    have h1 := r.pos
    have h2 := r.two
    have h3 := r.le
    have h4 := M.le
    have h5 := M.ge
    dsimp only at r h1 h2 h3 h4 h5
    refine ⟨q, List.mem_range.mpr (by (clear hw; lia)), List.mem_filterMap.mpr ⟨p, (mem_waysL T hw (by (clear h1; lia))).mpr ⟨t, M.way, by lia⟩, ?_⟩⟩
    obtain ⟨k1, k2, k3, k4, k5, k6⟩ := about_spec (oc := oc) (w := w) (p := p) (q := q) h1 (by lia) (by lia)
    unfold markOf aboutR
    dsimp only
    generalize endN oc w p (backF oc w p q) = e' at k2 k3 k4 k6 ⊢
    generalize backF oc w p q = b' at k1 k4 k5 ⊢
    obtain ⟨rfl, rfl⟩ := same_stretch r.per k4 r.left k5 r.right k6 h3 k3 (by lia) (by lia) (by (clear h2; lia)) (by lia)
    rw [if_pos (by lia)]
theorem IsMark.one {q p p' b b' e e' : Nat} {t t' : Bool} (T : Txt (tx oc) oc.length) (h : IsMark oc q t p b e) (k : IsMark oc q t' p' b' e') (h1 : b < q) (h2 : b' < q) : (p, b, e) = (p', b', e') := by
  have r := h.run
  have r' := k.run
  have a1 := h.le
  have a2 := k.le
  have a3 := r.le
  have a4 := r'.le
  have a5 := r.pos
  have := r'.pos
  obtain rfl := behind_one T (by lia) h.way k.way (r.per.sub (Nat.le_refl _) a1) (r'.per.sub (Nat.le_refl _) a2) h1 h2
  obtain ⟨rfl, rfl⟩ := same_stretch r.per r'.per r.left r'.left r.right r'.right a3 a4 (by lia) (by (clear h1; lia)) (by lia) (by (clear h1; lia))
  rfl
end
end Mine
end
section
set_option linter.unusedVariables false
set_option maxRecDepth 100000
namespace Mine
open PySem PyProof.Rows
section
theorem dedup_spec (ns : List Int) : ∀ acc : List Int, acc.Nodup → (ns.foldl step_dedup acc).Nodup ∧ ∀ x, x ∈ ns.foldl step_dedup acc ↔ x ∈ acc ∨ x ∈ ns := by
  induction ns with
  | nil => intro acc h; exact ⟨h, fun x => ⟨.inl, fun q => q.elim id fun q => nomatch q⟩⟩
  | cons y ns ih =>
    intro acc h
    have hs : step_dedup acc y = if y ∈ acc then acc else acc ++ [y] := by
      unfold step_dedup
      by_cases q : y ∈ acc
      · rw [if_pos q, if_pos (List.any_eq_true.mpr ⟨y, q, by simp⟩)]
      · rw [if_neg q, if_neg (by rw [List.any_eq_true]; rintro ⟨z, z1, z2⟩; exact q ((beq_iff_eq.mp z2) ▸ z1))]
    rw [List.foldl_cons, hs]
    by_cases q : y ∈ acc
    · rw [if_pos q]
      obtain ⟨a, b⟩ := ih acc h
      refine ⟨a, fun x => ?_⟩
      rw [b x, List.mem_cons]
      exact ⟨fun r => r.elim .inl fun r => .inr (.inr r), fun r => r.elim .inl fun r => r.elim (fun e => .inl (e ▸ q)) .inr⟩
    · rw [if_neg q]
      obtain ⟨a, b⟩ := ih (acc ++ [y]) (by
        show List.Pairwise _ _
        rw [List.pairwise_append]
        exact ⟨h, List.pairwise_singleton _ _, fun a ha b hb e => q (by rw [List.mem_singleton.mp hb] at e; exact e ▸ ha)⟩)
      refine ⟨a, fun x => ?_⟩
      rw [b x, List.mem_append, List.mem_singleton, List.mem_cons, or_assoc]
theorem uniq_nodup {L : List Int} (h : L.Nodup) : L.length ≤ uniq L := by
  obtain ⟨_, d2⟩ := dedup_spec L [] List.nodup_nil
  exact inj_len (T := fun x y => x = y) h (fun x hx => ⟨x, (d2 x).mpr (.inr hx), rfl⟩) fun x _ x' _ y e1 e2 => e1.trans e2.symm
end
section
variable {oc : List Int} {w p b e q : Nat}
theorem IsRun.mark {t : Bool} (r : IsRun (tx oc) oc.length p b e) (ht : sg (tx oc) t e < sg (tx oc) t (e - p)) (h : LYN (sg (tx oc) t) q (q + p)) (hb : b ≤ q) (he : q + p ≤ e) : IsMark oc q t p b e := ⟨r, r.way ht h hb he, hb, he⟩
theorem mem_found (T : Txt (tx oc) oc.length) (hw : oc.length - 1 ≤ w) {x : Run} : x ∈ foundOf (allMarks oc w oc.length) ↔ x ∈ allRuns oc w (oc.length / 2 + 1) := by
  unfold foundOf
  rw [(found_spec _ [] List.nodup_nil).2.1 x, mem_allRuns hw]
  constructor
  · rintro (h | ⟨m, h, rfl⟩)
    · cases h
    · obtain ⟨t, k⟩ := (mem_marks T hw).mp h
      exact k.run
  · intro r
    obtain ⟨t, ht⟩ := T.order r
    obtain ⟨s, s1, s2⟩ := r.turn t
    have h2 := r.two
    exact .inr ⟨(x.2.1 + s, x), (mem_marks T hw).mpr ⟨t, r.mark ht s2 (by (clear s2; lia)) (by lia)⟩, rfl⟩
/-- behind: one mark at a place -/
theorem behind_apart (T : Txt (tx oc) oc.length) (hw : oc.length - 1 ≤ w) : (behindOf (allMarks oc w oc.length)).Pairwise fun m m' => m.1 ≠ m'.1 := by
  have key : (allMarks oc w oc.length).Pairwise fun m m' => m.2.2.1 < m.1 → m'.2.2.1 < m'.1 → m.1 ≠ m'.1 := by
    have hm := fun m => mem_marks (oc := oc) (w := w) (m := m) T hw
    unfold allMarks marksAt at hm ⊢
    rw [List.pairwise_flatMap]
    refine ⟨fun q hq => ?_, List.pairwise_lt_range.imp fun {q q'} hqq m h m' h' _ _ => ?_⟩
    · rw [List.pairwise_filterMap]
      have hW : (waysL oc w q).Pairwise fun d d' => d ≠ d' := by
        obtain ⟨s1, s2⟩ := waysTo_spec oc w q (oc.length - q)
        unfold waysL
        rw [List.filter_cons]
        split
        · rename_i h1
          have h1 := of_decide_eq_true h1
          rw [List.filter_cons]
          split
          · rename_i h2
            have h2 := of_decide_eq_true h2
            refine List.pairwise_pair.mpr fun e => ?_
            rcases s1 with ⟨_, s1⟩ | ⟨j, _, a1, a2, _⟩
            · (clear e; lia)
            rcases s2 with ⟨_, s2⟩ | ⟨j', _, b1, b2, _⟩
            · (clear e; lia)
            obtain rfl : j = j' := by (clear a2 b2; lia)
            rw [a2] at b2; cases b2
          · exact List.pairwise_singleton _ _
        · exact (List.pairwise_singleton _ _).filter _
      refine (List.Pairwise.and_mem.mp hW).imp fun {d d'} ⟨h1, h2, hne⟩ m hm1 m' hm2 hb hb' _ => hne ?_
      obtain ⟨t, k⟩ := (hm m).mp (List.mem_flatMap.mpr ⟨q, hq, List.mem_filterMap.mpr ⟨d, h1, hm1⟩⟩)
      obtain ⟨t', k'⟩ := (hm m').mp (List.mem_flatMap.mpr ⟨q, hq, List.mem_filterMap.mpr ⟨d', h2, hm2⟩⟩)
      have e1 : m.1 = q ∧ m.2.1 = d := by
        unfold markOf at hm1
        split at hm1
        · cases hm1; exact ⟨rfl, rfl⟩
        · cases hm1
      have e2 : m'.1 = q ∧ m'.2.1 = d' := by
        unfold markOf at hm2
        split at hm2
        · cases hm2; exact ⟨rfl, rfl⟩
        · cases hm2
      have hqq : m.1 = m'.1 := e1.1.trans e2.1.symm
      rw [← hqq] at k' hb'
      have := k.one T k' hb hb'
      injection this with this _
      rw [← e1.2, ← e2.2]; exact this
    · obtain ⟨d, _, h⟩ := List.mem_filterMap.mp h
      obtain ⟨d', _, h'⟩ := List.mem_filterMap.mp h'
      have e1 : m.1 = q := by
        unfold markOf at h
        split at h
        · cases h; rfl
        · cases h
      have e2 : m'.1 = q' := by
        unfold markOf at h'
        split at h'
        · cases h'; rfl
        · cases h'
      lia
  unfold behindOf
  refine (List.Pairwise.and_mem.mp (key.filter _)).imp fun {m m'} ⟨h1, h2, h⟩ => ?_
  exact h (of_decide_eq_true (List.mem_filter.mp h1).2) (of_decide_eq_true (List.mem_filter.mp h2).2)
theorem mem_behind (T : Txt (tx oc) oc.length) (hw : oc.length - 1 ≤ w) {m : Mark} : m ∈ behindOf (allMarks oc w oc.length) ↔ (∃ t, IsMark oc m.1 t m.2.1 m.2.2.1 m.2.2.2) ∧ m.2.2.1 < m.1 := by
  unfold behindOf
  rw [List.mem_filter, mem_marks T hw, decide_eq_true_iff]
theorem many_right (T : Txt (tx oc) oc.length) (hw : oc.length - 1 ≤ w) {r : Run} (hr : r ∈ allRuns oc w (oc.length / 2 + 1)) : manyOf (allMarks oc w oc.length) r = (r.2.2 - r.2.1) / r.1 ∨ manyOf (allMarks oc w oc.length) r + 1 = (r.2.2 - r.2.1) / r.1 := by
  have r' := (mem_allRuns hw).mp hr
  obtain ⟨t, ht⟩ := T.order r'
  have := count_turns r' ht (Q := ((behindOf (allMarks oc w oc.length)).filter fun m => decide (m.2 = r)).map (·.1)) (by
    show List.Pairwise _ _
    rw [List.pairwise_map]
    exact (behind_apart T hw).filter _) (fun q => by
    rw [List.mem_map]
    constructor
    · rintro ⟨m, hm, rfl⟩
      obtain ⟨h1, h2⟩ := List.mem_filter.mp hm
      obtain ⟨⟨t', k⟩, h3⟩ := (mem_behind T hw).mp h1
      obtain rfl := of_decide_eq_true h2
      refine ⟨h3, k.le, ?_⟩
      by_cases e : t' = t
      · subst e; exact k.way.lyn
      · have e2 : t' = !t := by cases t <;> cases t' <;> simp_all
        subst e2
        exact (r'.not_way ht k.way k.ge k.le).elim
    · rintro ⟨h1, h2, h3⟩
      exact ⟨(q, r), List.mem_filter.mpr ⟨(mem_behind T hw).mpr ⟨⟨t, r'.mark ht h3 (by lia) h2⟩, h1⟩, decide_eq_true rfl⟩, rfl⟩)
  rw [List.length_map] at this
  exact this
theorem behind_few (T : Txt (tx oc) oc.length) (hw : oc.length - 1 ≤ w) : (behindOf (allMarks oc w oc.length)).length ≤ oc.length - 1 := by
  have := inj_len (X := behindOf (allMarks oc w oc.length)) (Y := List.range (oc.length - 1)) (T := fun m y => m.1 = y + 1) ((behind_apart T hw).imp fun h e => h (by rw [e])) (fun m hm => by
    obtain ⟨⟨t, k⟩, h⟩ := (mem_behind T hw).mp hm
    have := k.le
    have := k.run.le
    have := k.run.pos
    exact ⟨m.1 - 1, List.mem_range.mpr (by omega), by lia⟩) (fun m hm m' hm' y e1 e2 => by
    obtain ⟨⟨t, k⟩, h⟩ := (mem_behind T hw).mp hm
    obtain ⟨⟨t', k'⟩, h'⟩ := (mem_behind T hw).mp hm'
    have e : m.1 = m'.1 := e1.trans e2.symm
    obtain ⟨q, r⟩ := m
    obtain ⟨q', r'⟩ := m'
    dsimp only at e k k' h h'
    subst e
    have := k.one T k' h h'
    rw [show r = r' from this])
  rw [List.length_range] at this
  exact this
theorem runs_few (T : Txt (tx oc) oc.length) (hw : oc.length - 1 ≤ w) (h2 : 2 ≤ oc.length) (h16 : oc.length ≤ 16) : (allRuns oc w (oc.length / 2 + 1)).length ≤ oc.length - 1 := by
  have hn := up_nodup (allRuns_up (oc := oc) (w := w) h16 _ (Nat.le_refl _)).1
  refine Nat.le_trans (inj_len (Y := behindOf (allMarks oc w oc.length)) (T := fun (r : Run) (m : Mark) => m.2 = r) hn (fun r hr => ?_) fun r _ r' _ m e1 e2 => by rw [← e1, ← e2]) (behind_few T hw)
  have r' := (mem_allRuns hw).mp hr
  have hp := r'.pos
  have htwo := r'.two
  have hW : 2 ≤ (r.2.2 - r.2.1) / r.1 := (Nat.le_div_iff_mul_le hp).mpr (by lia)
  have hm : 0 < manyOf (allMarks oc w oc.length) r := by
    have := many_right T hw hr
    lia
  unfold manyOf at hm
  obtain ⟨m, hm⟩ := List.exists_mem_of_length_pos hm
  obtain ⟨h3, h4⟩ := List.mem_filter.mp hm
  exact ⟨m, h3, of_decide_eq_true h4⟩
theorem many_sum (T : Txt (tx oc) oc.length) (hw : oc.length - 1 ≤ w) (h16 : oc.length ≤ 16) : ((allRuns oc w (oc.length / 2 + 1)).map (manyOf (allMarks oc w oc.length))).sum ≤ oc.length - 1 := by
  have hn := up_nodup (allRuns_up (oc := oc) (w := w) h16 _ (Nat.le_refl _)).1
  have hB : (behindOf (allMarks oc w oc.length)).Nodup := (behind_apart T hw).imp fun h e => h (by rw [e])
  have := inj_len (X := (allRuns oc w (oc.length / 2 + 1)).flatMap fun r => (behindOf (allMarks oc w oc.length)).filter fun m => decide (m.2 = r)) (Y := behindOf (allMarks oc w oc.length)) (T := fun x y => x = y) (by
    show List.Pairwise _ _
    rw [List.pairwise_flatMap]
    refine ⟨fun r _ => hB.filter _, hn.imp fun {r r'} hne x hx y hy e => hne ?_⟩
    rw [← of_decide_eq_true (List.mem_filter.mp hx).2, ← of_decide_eq_true (List.mem_filter.mp hy).2, e]) (fun x hx => by
    obtain ⟨r, _, h⟩ := List.mem_flatMap.mp hx
    exact ⟨x, (List.mem_filter.mp h).1, rfl⟩) fun x _ x' _ y e1 e2 => e1.trans e2.symm
  rw [List.length_flatMap] at this
  exact Nat.le_trans this (behind_few T hw)
theorem sum_bound {g : Run → Int} {c : Run → Nat} : ∀ {L : List Run}, (∀ r ∈ L, g r ≤ 840 * ((c r : Int) + 2)) → (L.map g).sum ≤ 840 * (((L.map c).sum : Nat) : Int) + 1680 * (L.length : Int)
  | [], _ => by simp
  | r :: L, h => by
    have h1 := h r (.head _)
    have h2 := sum_bound (L := L) fun x hx => h x (.tail _ hx)
    rw [List.map_cons, List.map_cons, List.sum_cons, List.sum_cons, List.length_cons]
    lia
theorem run_share {p l : Nat} (h1 : 1 ≤ p) (h8 : p ≤ 8) : ((l : Int)) * (840 / (p : Int)) ≤ 840 * (((l / p : Nat) : Int) + 1) := by
  have e : (p : Int) * (840 / (p : Int)) = 840 := by
    have : p = 1 ∨ p = 2 ∨ p = 3 ∨ p = 4 ∨ p = 5 ∨ p = 6 ∨ p = 7 ∨ p = 8 := by lia
    rcases this with rfl | rfl | rfl | rfl | rfl | rfl | rfl | rfl <;> rfl
  have hz : 0 ≤ (840 : Int) / (p : Int) := Int.ediv_nonneg (by decide) (by (clear h1; lia))
  have hl : l ≤ p * (l / p + 1) := by
    have h1 := Nat.div_add_mod l p
    have h2 := Nat.mod_lt l (show 0 < p by assumption)
    rw [Nat.mul_add, Nat.mul_one]; lia
  have hl' : (l : Int) ≤ (p : Int) * (((l / p : Nat) : Int) + 1) := by
    have := Int.ofNat_le.mpr hl
    rw [Int.natCast_mul] at this
    exact this
  have := Int.mul_le_mul_of_nonneg_right hl' hz
  refine Int.le_trans this (Int.le_of_eq ?_)
  rw [Int.mul_assoc, Int.mul_comm (((l / p : Nat) : Int) + 1), ← Int.mul_assoc, e]
theorem marks_right (T : Txt (tx oc) oc.length) (hw : oc.length - 1 ≤ w) (h2 : 2 ≤ oc.length) (h16 : oc.length ≤ 16) : MarksOk (allMarks oc w oc.length) (allRuns oc w (oc.length / 2 + 1)) where
  len := Nat.le_trans (allMarks_len oc w _) (by lia)
  lenT := Nat.le_trans (runs_few T hw h2 h16) (by (clear hw h2; omega))
  ok := fun m hm => by
    obtain ⟨t, k⟩ := (mem_marks T hw).mp hm
    have := (allRuns_up (oc := oc) (w := w) h16 _ (Nat.le_refl _)).2 m.2 ((mem_allRuns hw).mpr k.run)
    exact ⟨by (clear hw; omega), by lia⟩
  few := by
    have := (found_spec (allMarks oc w oc.length) [] List.nodup_nil).2.2
    have := allMarks_len oc w oc.length
    unfold foundOf
    rw [List.length_nil] at *
    lia
  sorted := fun N n1 n2 => numT_ext n2 (allRuns_up h16 _ (Nat.le_refl _)).1 fun x => (n1.mem_iff).trans (mem_found T hw)
  apart := by
    have := uniq_nodup (L := (behindOf (allMarks oc w oc.length)).map fun m => (m.1 : Int)) (by
      show List.Pairwise _ _
      rw [List.pairwise_map]
      exact (behind_apart T hw).imp fun h e => h (by (clear h; lia)))
    rw [List.length_map] at this
    exact this
  many := fun r hr => by
    have r' := (mem_allRuns hw).mp hr
    have := r'.pos
    have := r'.two
    have := r'.le
    exact ⟨⟨by assumption, by lia, by lia⟩, many_right T hw hr⟩
theorem m01 (oc : List Int) (w : Nat) (h2 : 2 ≤ oc.length) (h16 : oc.length ≤ 16) (hl : Lets oc) (hw : oc.length - 1 ≤ w) : Math01 oc w := by
  have T := txt_of hl
  obtain ⟨up, bd⟩ := allRuns_up (oc := oc) (w := w) h16 _ (Nat.le_refl _)
  have hf := runs_few T hw h2 h16
  have hm := fun r => mem_allRuns (oc := oc) (w := w) (r := r) hw
  have hs := many_sum T hw h16
  have hmr := fun r h => many_right (r := r) T hw h
  have mk := marks_right T hw h2 h16
  have ge : ∀ i, i < (allRuns oc w (oc.length / 2 + 1)).length → (allRuns oc w (oc.length / 2 + 1)).getD i (0, 0, 0) ∈ allRuns oc w (oc.length / 2 + 1) := fun i hi => by
    rw [List.getD_eq_getElem?_getD, List.getElem?_eq_getElem hi]; exact List.getElem_mem _
  refine ⟨by (clear h16 hw hs; omega), fun r hr => ⟨((hm r).mp hr).pos, by have := bd r hr; lia⟩, ?_, fun i j hj hi => ?_, mk, fun x hx => ?_, ownAll_nodup, ?_, fun N n1 n2 => numT_ext n2 up fun x => n1.mem_iff.trans (mem_ownAll.trans (hm x).symm)⟩
  · refine Int.le_trans (sum_bound (c := manyOf (allMarks oc w oc.length)) fun r hr => ?_) (by lia)
    have r' := (hm r).mp hr
    have h1 := r'.pos
    have h2 := r'.two
    have h3 := r'.le
    have := run_share (p := r.1) (l := r.2.2 - r.2.1) h1 (by lia)
    rw [show ((r.2.2 - r.2.1 : Nat) : Int) = (r.2.2 : Int) - (r.2.1 : Int) by (clear h1; lia)] at this
    refine Int.le_trans this ?_
    have := hmr r hr
    (clear h2; lia)
  · have a := (hm _).mp (ge i hi)
    have b := (hm _).mp (ge j (by lia))
    refine runs_apart a b fun ⟨e1, e2, e3⟩ => ?_
    have hne := List.pairwise_iff_getElem.mp up j i (by lia) hi hj
    have g : ∀ k (hk : k < (allRuns oc w (oc.length / 2 + 1)).length), (allRuns oc w (oc.length / 2 + 1)).getD k (0, 0, 0) = (allRuns oc w (oc.length / 2 + 1))[k] := fun k hk => by
      rw [List.getD_eq_getElem?_getD, List.getElem?_eq_getElem hk]; rfl
    rw [← g j (by lia), ← g i hi] at hne
    unfold numT at hne
    rw [e1, e2, e3] at hne
    exact absurd hne (Int.lt_irrefl _)
  · have r := mem_ownAll.mp hx
    have h1 := r.pos
    have h2 := r.two
    have h3 := r.le
    exact ⟨by (clear h1; lia), by lia⟩
  · have := inj_len (X := ownAll oc (oc.length - 1)) (Y := allRuns oc w (oc.length / 2 + 1)) (T := fun x y => x = y) ownAll_nodup (fun x hx => ⟨x, (hm x).mpr (mem_ownAll.mp hx), rfl⟩) fun x _ x' _ y e1 e2 => e1.trans e2.symm
    (clear h2 hw hs; omega)
end
end Mine
end
theorem Mine.join01.tw10000695881204270869 : True := trivial
theorem Mine.join01.tw10164852047522160615 : True := trivial
theorem Mine.join01.tw10170502199234524830 : True := trivial
theorem Mine.join01.tw10193174161497644305 : True := trivial
theorem Mine.join01.tw10226034532189140328 : True := trivial
theorem Mine.join01.tw10258017727862632385 : True := trivial
theorem Mine.join01.tw10266573337254934089 : True := trivial
theorem Mine.join01.tw1057848066427364404 : True := trivial
theorem Mine.join01.tw10594436438940985395 : True := trivial
theorem Mine.join01.tw10731311308602260500 : True := trivial
theorem Mine.join01.tw10775723255821404124 : True := trivial
theorem Mine.join01.tw10819624990720254300 : True := trivial
theorem Mine.join01.tw10878196189367746333 : True := trivial
theorem Mine.join01.tw10939758771052357400 : True := trivial
theorem Mine.join01.tw10968497264351704519 : True := trivial
theorem Mine.join01.tw11006564922319420987 : True := trivial
theorem Mine.join01.tw11017572740275871275 : True := trivial
theorem Mine.join01.tw1107119971623786643 : True := trivial
theorem Mine.join01.tw11117319006817453630 : True := trivial
theorem Mine.join01.tw11127403340095707891 : True := trivial
theorem Mine.join01.tw11223878141302276134 : True := trivial
theorem Mine.join01.tw11320827451587452938 : True := trivial
theorem Mine.join01.tw11351240130235264695 : True := trivial
theorem Mine.join01.tw11397105873293567815 : True := trivial
theorem Mine.join01.tw1143748743268743614 : True := trivial
theorem Mine.join01.tw11577963732388770888 : True := trivial
theorem Mine.join01.tw11612850777292213007 : True := trivial
theorem Mine.join01.tw11674308593426776297 : True := trivial
theorem Mine.join01.tw11684633154317546488 : True := trivial
theorem Mine.join01.tw1169680752479916241 : True := trivial
theorem Mine.join01.tw11743809373613999785 : True := trivial
theorem Mine.join01.tw11761255654745413406 : True := trivial
theorem Mine.join01.tw11788567786234301173 : True := trivial
theorem Mine.join01.tw11847699452489356284 : True := trivial
theorem Mine.join01.tw11895527186057084226 : True := trivial
theorem Mine.join01.tw11934611012638067378 : True := trivial
theorem Mine.join01.tw11942229263380658856 : True := trivial
theorem Mine.join01.tw12075736862995339152 : True := trivial
theorem Mine.join01.tw12085363515686263413 : True := trivial
theorem Mine.join01.tw12096457125434920201 : True := trivial
theorem Mine.join01.tw12125109591408089583 : True := trivial
theorem Mine.join01.tw12421318490539269849 : True := trivial
theorem Mine.join01.tw12468959188796109611 : True := trivial
theorem Mine.join01.tw12471687560941921764 : True := trivial
theorem Mine.join01.tw12486430566433246596 : True := trivial
theorem Mine.join01.tw12606976475362988212 : True := trivial
theorem Mine.join01.tw12692607466266146794 : True := trivial
theorem Mine.join01.tw12789450138562701275 : True := trivial
theorem Mine.join01.tw1279621403923170642 : True := trivial
theorem Mine.join01.tw12856906525197772157 : True := trivial
theorem Mine.join01.tw12857201067621482581 : True := trivial
theorem Mine.join01.tw12896095952637444925 : True := trivial
theorem Mine.join01.tw12965812701635028874 : True := trivial
theorem Mine.join01.tw13043741546203866367 : True := trivial
theorem Mine.join01.tw13168456832183079113 : True := trivial
theorem Mine.join01.tw13257865884371986918 : True := trivial
theorem Mine.join01.tw13303881861188511913 : True := trivial
theorem Mine.join01.tw13316367095499415646 : True := trivial
theorem Mine.join01.tw13331838430989611072 : True := trivial
theorem Mine.join01.tw13384354468170997190 : True := trivial
theorem Mine.join01.tw13444011012117450394 : True := trivial
theorem Mine.join01.tw13493844712508148695 : True := trivial
theorem Mine.join01.tw1354522002328026996 : True := trivial
theorem Mine.join01.tw13577048427497617245 : True := trivial
theorem Mine.join01.tw13610905846778798700 : True := trivial
theorem Mine.join01.tw13678173215387873094 : True := trivial
theorem Mine.join01.tw13690465097441498897 : True := trivial
theorem Mine.join01.tw13737563629705243516 : True := trivial
theorem Mine.join01.tw13759196528392296103 : True := trivial
theorem Mine.join01.tw13810416062249508289 : True := trivial
theorem Mine.join01.tw13965172095480406194 : True := trivial
theorem Mine.join01.tw14015267042607897913 : True := trivial
theorem Mine.join01.tw14044350607625752595 : True := trivial
theorem Mine.join01.tw14098056442168226996 : True := trivial
theorem Mine.join01.tw14126566577805557044 : True := trivial
theorem Mine.join01.tw1414929906409775658 : True := trivial
theorem Mine.join01.tw14158027227389830456 : True := trivial
theorem Mine.join01.tw1417495257186964907 : True := trivial
theorem Mine.join01.tw14183005250998402220 : True := trivial
theorem Mine.join01.tw14230244533523748788 : True := trivial
theorem Mine.join01.tw14336063802516143437 : True := trivial
theorem Mine.join01.tw14382091545145391292 : True := trivial
theorem Mine.join01.tw14393030210075677187 : True := trivial
theorem Mine.join01.tw14410928931510063595 : True := trivial
theorem Mine.join01.tw14500792071579402489 : True := trivial
theorem Mine.join01.tw14526218441445879616 : True := trivial
theorem Mine.join01.tw14655593352833303521 : True := trivial
theorem Mine.join01.tw14670501239371213187 : True := trivial
theorem Mine.join01.tw14679054755022935835 : True := trivial
theorem Mine.join01.tw14729274827906519235 : True := trivial
theorem Mine.join01.tw14729439371436393064 : True := trivial
theorem Mine.join01.tw14847528199959752169 : True := trivial
theorem Mine.join01.tw14859057387088879916 : True := trivial
theorem Mine.join01.tw14886757801376174671 : True := trivial
theorem Mine.join01.tw14939799461453803233 : True := trivial
theorem Mine.join01.tw14951017339292948805 : True := trivial
theorem Mine.join01.tw15020456897846862640 : True := trivial
theorem Mine.join01.tw151209357386315651 : True := trivial
theorem Mine.join01.tw15135869205680681292 : True := trivial
theorem Mine.join01.tw15141127024444852443 : True := trivial
theorem Mine.join01.tw15199960225989302864 : True := trivial
theorem Mine.join01.tw15300588729089941250 : True := trivial
theorem Mine.join01.tw15306197478736946178 : True := trivial
theorem Mine.join01.tw15321607964346982880 : True := trivial
theorem Mine.join01.tw15341834810015553435 : True := trivial
theorem Mine.join01.tw15370470271602998387 : True := trivial
theorem Mine.join01.tw15386651413079162250 : True := trivial
theorem Mine.join01.tw15390364717422271999 : True := trivial
theorem Mine.join01.tw15451476377149108913 : True := trivial
theorem Mine.join01.tw15599917916858460546 : True := trivial
theorem Mine.join01.tw15721995728314812610 : True := trivial
theorem Mine.join01.tw15725644301092767059 : True := trivial
theorem Mine.join01.tw15822770194409251330 : True := trivial
theorem Mine.join01.tw15824494681236918669 : True := trivial
theorem Mine.join01.tw15838451190910998450 : True := trivial
theorem Mine.join01.tw15866317177621704101 : True := trivial
theorem Mine.join01.tw15974436064746298831 : True := trivial
theorem Mine.join01.tw16092811382231103278 : True := trivial
theorem Mine.join01.tw16247896407155940580 : True := trivial
theorem Mine.join01.tw16270160433622052078 : True := trivial
theorem Mine.join01.tw16271664469063642640 : True := trivial
theorem Mine.join01.tw16278472218893329342 : True := trivial
theorem Mine.join01.tw16279357162673630601 : True := trivial
theorem Mine.join01.tw16308337470383708759 : True := trivial
theorem Mine.join01.tw16317245861960428638 : True := trivial
theorem Mine.join01.tw16356342952729608015 : True := trivial
theorem Mine.join01.tw164004527165643210 : True := trivial
theorem Mine.join01.tw16405559950247174592 : True := trivial
theorem Mine.join01.tw16426625767384501706 : True := trivial
theorem Mine.join01.tw16473753561574470425 : True := trivial
theorem Mine.join01.tw16514324147233058689 : True := trivial
theorem Mine.join01.tw16518394461174200000 : True := trivial
theorem Mine.join01.tw16536859988505451257 : True := trivial
theorem Mine.join01.tw16564726171016260506 : True := trivial
theorem Mine.join01.tw16581094180240560291 : True := trivial
theorem Mine.join01.tw16587601921106717705 : True := trivial
theorem Mine.join01.tw16628417448528081080 : True := trivial
theorem Mine.join01.tw16707499096907700218 : True := trivial
theorem Mine.join01.tw16719743158689630880 : True := trivial
theorem Mine.join01.tw16724875613618161482 : True := trivial
theorem Mine.join01.tw1677208671605728958 : True := trivial
theorem Mine.join01.tw1687372659439651632 : True := trivial
theorem Mine.join01.tw16877407177452535351 : True := trivial
theorem Mine.join01.tw16884932631580975769 : True := trivial
theorem Mine.join01.tw17027119808892726856 : True := trivial
theorem Mine.join01.tw1705465001475979151 : True := trivial
theorem Mine.join01.tw17065578281748440715 : True := trivial
theorem Mine.join01.tw17072494087367310936 : True := trivial
theorem Mine.join01.tw17076407359450335096 : True := trivial
theorem Mine.join01.tw17156779999732568988 : True := trivial
theorem Mine.join01.tw17227330639210066221 : True := trivial
theorem Mine.join01.tw17279476630693233996 : True := trivial
theorem Mine.join01.tw17279528917590951973 : True := trivial
theorem Mine.join01.tw17320716409595553867 : True := trivial
theorem Mine.join01.tw1733036351347467583 : True := trivial
theorem Mine.join01.tw17385935423236083336 : True := trivial
theorem Mine.join01.tw17413728866081786282 : True := trivial
theorem Mine.join01.tw17429263927538100204 : True := trivial
theorem Mine.join01.tw17443073107812194771 : True := trivial
theorem Mine.join01.tw17457382998787429416 : True := trivial
theorem Mine.join01.tw1753714517983948665 : True := trivial
theorem Mine.join01.tw17559056575407922218 : True := trivial
theorem Mine.join01.tw17585479970641542478 : True := trivial
theorem Mine.join01.tw17589246477849784312 : True := trivial
theorem Mine.join01.tw17604076226769999972 : True := trivial
theorem Mine.join01.tw17634734451797564352 : True := trivial
theorem Mine.join01.tw17734971558059426902 : True := trivial
theorem Mine.join01.tw17828783146327647459 : True := trivial
theorem Mine.join01.tw17910556551908000317 : True := trivial
theorem Mine.join01.tw1794755397133071011 : True := trivial
theorem Mine.join01.tw17951125563676087763 : True := trivial
theorem Mine.join01.tw17955160473990604726 : True := trivial
theorem Mine.join01.tw1802866736567176354 : True := trivial
theorem Mine.join01.tw18193728683619194312 : True := trivial
theorem Mine.join01.tw18265796531058021008 : True := trivial
theorem Mine.join01.tw18427255224770754891 : True := trivial
theorem Mine.join01.tw18434995574080053608 : True := trivial
theorem Mine.join01.tw1963795956614980601 : True := trivial
theorem Mine.join01.tw2075243041907222729 : True := trivial
theorem Mine.join01.tw2112302337395886007 : True := trivial
theorem Mine.join01.tw2136152908801171838 : True := trivial
theorem Mine.join01.tw2145609141568871199 : True := trivial
theorem Mine.join01.tw2180947130385979848 : True := trivial
theorem Mine.join01.tw218882859212546627 : True := trivial
theorem Mine.join01.tw2230296857818698822 : True := trivial
theorem Mine.join01.tw2311299081227631425 : True := trivial
theorem Mine.join01.tw2321292570562410534 : True := trivial
theorem Mine.join01.tw24061006919610885 : True := trivial
theorem Mine.join01.tw2464566881296571031 : True := trivial
theorem Mine.join01.tw2478440604350039664 : True := trivial
theorem Mine.join01.tw2523743306221055808 : True := trivial
theorem Mine.join01.tw2623769751166614976 : True := trivial
theorem Mine.join01.tw2668736012209986977 : True := trivial
theorem Mine.join01.tw2689887943304181444 : True := trivial
theorem Mine.join01.tw2761327300910748189 : True := trivial
theorem Mine.join01.tw2794500170258837964 : True := trivial
theorem Mine.join01.tw2812358530026861811 : True := trivial
theorem Mine.join01.tw2852649345109815757 : True := trivial
theorem Mine.join01.tw2894638071680824008 : True := trivial
theorem Mine.join01.tw3018888030389786529 : True := trivial
theorem Mine.join01.tw3027386990839423758 : True := trivial
theorem Mine.join01.tw3045591951437375115 : True := trivial
theorem Mine.join01.tw3074828693608323675 : True := trivial
theorem Mine.join01.tw3142535332121141320 : True := trivial
theorem Mine.join01.tw317794174392481715 : True := trivial
theorem Mine.join01.tw321031772029935899 : True := trivial
theorem Mine.join01.tw3214559767446358316 : True := trivial
theorem Mine.join01.tw3235889718156419951 : True := trivial
theorem Mine.join01.tw3247875290389359922 : True := trivial
theorem Mine.join01.tw3257344318035606157 : True := trivial
theorem Mine.join01.tw3305932191037519391 : True := trivial
theorem Mine.join01.tw3307046488221787826 : True := trivial
theorem Mine.join01.tw3322326276971745837 : True := trivial
theorem Mine.join01.tw3484718371280658571 : True := trivial
theorem Mine.join01.tw3495653568221384592 : True := trivial
theorem Mine.join01.tw3514837217420654069 : True := trivial
theorem Mine.join01.tw3532111961783253994 : True := trivial
theorem Mine.join01.tw3566957434400546079 : True := trivial
theorem Mine.join01.tw3826569747454428149 : True := trivial
theorem Mine.join01.tw3865949904361228810 : True := trivial
theorem Mine.join01.tw3925658203598532420 : True := trivial
theorem Mine.join01.tw3932752980448636210 : True := trivial
theorem Mine.join01.tw3970558976359462367 : True := trivial
theorem Mine.join01.tw398534700069093286 : True := trivial
theorem Mine.join01.tw4069347507615034143 : True := trivial
theorem Mine.join01.tw4288256736398588492 : True := trivial
theorem Mine.join01.tw4469109742997905446 : True := trivial
theorem Mine.join01.tw4471306603383873030 : True := trivial
theorem Mine.join01.tw4505542298865322575 : True := trivial
theorem Mine.join01.tw4525322938004894140 : True := trivial
theorem Mine.join01.tw4532416461557326215 : True := trivial
theorem Mine.join01.tw453368393312772422 : True := trivial
theorem Mine.join01.tw4673210501333351042 : True := trivial
theorem Mine.join01.tw4760400181191447267 : True := trivial
theorem Mine.join01.tw4794778279634873978 : True := trivial
theorem Mine.join01.tw4827055183838118250 : True := trivial
theorem Mine.join01.tw4843566215064638690 : True := trivial
theorem Mine.join01.tw4857064409766112082 : True := trivial
theorem Mine.join01.tw4973710547385131409 : True := trivial
theorem Mine.join01.tw4984586472808832298 : True := trivial
theorem Mine.join01.tw5024389570730476637 : True := trivial
theorem Mine.join01.tw5161572095209924780 : True := trivial
theorem Mine.join01.tw5193122926545180710 : True := trivial
theorem Mine.join01.tw5261402657657683486 : True := trivial
theorem Mine.join01.tw5290517752019859184 : True := trivial
theorem Mine.join01.tw5442944053390779890 : True := trivial
theorem Mine.join01.tw5444717853698923364 : True := trivial
theorem Mine.join01.tw5496436019526342659 : True := trivial
theorem Mine.join01.tw5571620772895901527 : True := trivial
theorem Mine.join01.tw5648271140386965406 : True := trivial
theorem Mine.join01.tw5655903885849749267 : True := trivial
theorem Mine.join01.tw565682676555141140 : True := trivial
theorem Mine.join01.tw5687564266545008375 : True := trivial
theorem Mine.join01.tw5750804707664413525 : True := trivial
theorem Mine.join01.tw5771819309326540841 : True := trivial
theorem Mine.join01.tw5820156116388065058 : True := trivial
theorem Mine.join01.tw5881384895707657694 : True := trivial
theorem Mine.join01.tw5968343195743280430 : True := trivial
theorem Mine.join01.tw5976825976526988287 : True := trivial
theorem Mine.join01.tw5985966967644911249 : True := trivial
theorem Mine.join01.tw5997482523464629806 : True := trivial
theorem Mine.join01.tw6030023170967171635 : True := trivial
theorem Mine.join01.tw611829085244824399 : True := trivial
theorem Mine.join01.tw6128991061450135860 : True := trivial
theorem Mine.join01.tw6129569263680764044 : True := trivial
theorem Mine.join01.tw6133571976275967797 : True := trivial
theorem Mine.join01.tw6138402187370564029 : True := trivial
theorem Mine.join01.tw6168163458643881820 : True := trivial
theorem Mine.join01.tw6305215943336001543 : True := trivial
theorem Mine.join01.tw6436449401660472245 : True := trivial
theorem Mine.join01.tw6444278191883895760 : True := trivial
theorem Mine.join01.tw6455777271643297724 : True := trivial
theorem Mine.join01.tw6483927144251425921 : True := trivial
theorem Mine.join01.tw6500906247693867962 : True := trivial
theorem Mine.join01.tw6503043686789450680 : True := trivial
theorem Mine.join01.tw6505900359140206505 : True := trivial
theorem Mine.join01.tw6527224388100078350 : True := trivial
theorem Mine.join01.tw6528001501430961151 : True := trivial
theorem Mine.join01.tw6538506606252596363 : True := trivial
theorem Mine.join01.tw6539222567341906845 : True := trivial
theorem Mine.join01.tw6542050040918165238 : True := trivial
theorem Mine.join01.tw6580000848062126094 : True := trivial
theorem Mine.join01.tw6648184211267957907 : True := trivial
theorem Mine.join01.tw6651770919495234071 : True := trivial
theorem Mine.join01.tw6665139287458316939 : True := trivial
theorem Mine.join01.tw6687929642754051612 : True := trivial
theorem Mine.join01.tw6704942077021996862 : True := trivial
theorem Mine.join01.tw6706744159806531294 : True := trivial
theorem Mine.join01.tw6794947933224976453 : True := trivial
theorem Mine.join01.tw6846191871636211871 : True := trivial
theorem Mine.join01.tw6892954505408914334 : True := trivial
theorem Mine.join01.tw7017543808970485362 : True := trivial
theorem Mine.join01.tw7130253588360179710 : True := trivial
theorem Mine.join01.tw7183454879153047741 : True := trivial
theorem Mine.join01.tw7226740804246987982 : True := trivial
theorem Mine.join01.tw7231771560650997836 : True := trivial
theorem Mine.join01.tw7257633513713250052 : True := trivial
theorem Mine.join01.tw7283401406885159653 : True := trivial
theorem Mine.join01.tw7293648468374377911 : True := trivial
theorem Mine.join01.tw7368537036320169192 : True := trivial
theorem Mine.join01.tw7416041527438273302 : True := trivial
theorem Mine.join01.tw7525532045227349849 : True := trivial
theorem Mine.join01.tw7545509378904826274 : True := trivial
theorem Mine.join01.tw7561718722399023624 : True := trivial
theorem Mine.join01.tw7562550985104448021 : True := trivial
theorem Mine.join01.tw7583453796446337452 : True := trivial
theorem Mine.join01.tw7600508152423648259 : True := trivial
theorem Mine.join01.tw7632582918426359859 : True := trivial
theorem Mine.join01.tw7757350250399562212 : True := trivial
theorem Mine.join01.tw7777742998044965662 : True := trivial
theorem Mine.join01.tw7790376257603553505 : True := trivial
theorem Mine.join01.tw7816356991071239218 : True := trivial
theorem Mine.join01.tw7868711442024984219 : True := trivial
theorem Mine.join01.tw8058902347169186175 : True := trivial
theorem Mine.join01.tw8171341646860319814 : True := trivial
theorem Mine.join01.tw8192400388808557075 : True := trivial
theorem Mine.join01.tw8216976889454481475 : True := trivial
theorem Mine.join01.tw8221085283059083371 : True := trivial
theorem Mine.join01.tw8223822341109144708 : True := trivial
theorem Mine.join01.tw8266013564549156665 : True := trivial
theorem Mine.join01.tw8324191279309998015 : True := trivial
theorem Mine.join01.tw8330125344845215325 : True := trivial
theorem Mine.join01.tw8413315714178259098 : True := trivial
theorem Mine.join01.tw8421013240989272258 : True := trivial
theorem Mine.join01.tw8442913004252165531 : True := trivial
theorem Mine.join01.tw8540873993782552260 : True := trivial
theorem Mine.join01.tw8552479043672030938 : True := trivial
theorem Mine.join01.tw8574361262915593723 : True := trivial
theorem Mine.join01.tw857894385199668475 : True := trivial
theorem Mine.join01.tw8665613409841248129 : True := trivial
theorem Mine.join01.tw8724779596285461473 : True := trivial
theorem Mine.join01.tw8757285826113118440 : True := trivial
theorem Mine.join01.tw8820032284986597094 : True := trivial
theorem Mine.join01.tw8859043868846891258 : True := trivial
theorem Mine.join01.tw8885181475625814723 : True := trivial
theorem Mine.join01.tw9057711247400743383 : True := trivial
theorem Mine.join01.tw9113132716768772428 : True := trivial
theorem Mine.join01.tw9117119879142423067 : True := trivial
theorem Mine.join01.tw9143895592167010765 : True := trivial
theorem Mine.join01.tw9145043586017942845 : True := trivial
theorem Mine.join01.tw9162238256526615388 : True := trivial
theorem Mine.join01.tw9227194877362307368 : True := trivial
theorem Mine.join01.tw9229407017839822676 : True := trivial
theorem Mine.join01.tw9232377545591772358 : True := trivial
theorem Mine.join01.tw9246230373198333060 : True := trivial
theorem Mine.join01.tw9305271839980037734 : True := trivial
theorem Mine.join01.tw9365498917377436545 : True := trivial
theorem Mine.join01.tw9497160056097924251 : True := trivial
theorem Mine.join01.tw9564299223971195935 : True := trivial
theorem Mine.join01.tw9572002919452145848 : True := trivial
theorem Mine.join01.tw9613933109329670241 : True := trivial
theorem Mine.join01.tw9619121360750007887 : True := trivial
theorem Mine.join01.tw9689709063542939479 : True := trivial
theorem Mine.join01.tw9692553439503024709 : True := trivial
theorem Mine.join01.tw971928990210672608 : True := trivial
theorem Mine.join01.tw9764736363255041873 : True := trivial
theorem Mine.join01.tw9871044879524539582 : True := trivial
theorem Mine.join01.tw9899437154862212351 : True := trivial
theorem Mine.join01.tw9904412912277306783 : True := trivial
theorem Mine.join01.tw9905805851437891226 : True := trivial
theorem Mine.join01.tw9915981690133922726 : True := trivial
theorem Mine.join01.tw9939852975326927814 : True := trivial
theorem Mine.join01.tw9961090391724585701 : True := trivial
theorem Mine.join01.tw9983543834782981011 : True := trivial
open PySem PySem.W PyProof.Rows
set_option Elab.async true in
set_option maxRecDepth 100000 in
set_option maxHeartbeats 8000000 in
theorem Mine.join01 : PySem.Challenge.rw_xm0991_01.Holds := by
  w_on; o_law; k_head; (case hw => w_witness2)
  k_fill
  intro w s₀ s₁ mg mb G Y fa o pm cd doc dV kV ho hd hcd hD hmg hg args vals as hpre hlay hrd hwl hlo
  have KX := kIn_of Y
  have KX' : (Mine.KP w.params).In s₁.heap := Mine.kp_of KX (by rfl)
  have X := (Ground.X G).1
  have V := (Ground.X G).2
  try w_nolog (first | (have GL := glob_more (Ground.glob G (by first | k_qdec | decide +kernel)) V) | (have GL := glob_more (Ground.glob G (by decide +kernel)) V))
  refine Ground.open G ?_
  intro T B D TE TW
  try (refine guard_noD D (by decide +kernel) ?_; clear D)
  obtain ⟨_, _, M⟩ := bmod_of_top T
  wrow_args hpre hlay hrd hwl hlo
  all_goals (
    first | refine callC_kw (enter_call ?_) | refine enter_call ?_ | refine callC_kw (enter_callW ?_) | refine enter_callW ?_ | w_how)
  rename_i ns hs hlay0 hL1 hr1 hl2 w4 w3 l vs w0 hL ra w1 r0 hI hr2 hc1 hc2
  have hl : s₁.heap.get? l = some (listOf vs.toArray 0) := by
    have w1' : Well w.params s₁.heap (.ref l) (.list (ofPys (List.map PyData.int ns))) := w1
    cases w1' with
    | list h1 h2 =>
      obtain ⟨o, g1, g2, n, g3⟩ := hL
      rw [h1] at g1
      cases g1
      cases g3
      exact h1
  have ok : Mine.Cx.Ok ⟨PySem.Challenge.rw_xm0991_01.row.prog, w, s₁, s₁.heap, mg, mb, mainGlobals⟩ := ⟨T.g, T.b, T.builtins, T.nolimit, KX'⟩
  have e := hmg.symm.trans (Mine.mg_of ok (x := "law") (r := some (.ref 388)) (by rfl))
  cases e
  exact Mine.join_law (n := 7) (by decide) (fun _ => rfl) (postW_of (by first | rfl | wrow_shape) (w_eq_bool (w_res rfl) w_lit) (by rfl)) hg T.g hl hI (fun hβ => Mine.law_ok (n := 0) ok hβ (by omega) Mine.m01)
theorem PySem.Challenge.cw_xm0991_01_holds : PySem.Challenge.rw_xm0991_01.Holds := by
  exact Mine.join01
