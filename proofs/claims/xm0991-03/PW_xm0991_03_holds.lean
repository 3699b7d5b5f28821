import PyProof.Rows.All
import Wide.All
import OpenK.AllK
import Wide.FinOn
import Lean
import PySem.Challenge.RW_xm0991_03
set_option Elab.async false
set_option genSizeOf false
set_option maxRecDepth 100000
set_option maxHeartbeats 8000000
set_option linter.unusedVariables false
set_option linter.unusedSimpArgs false
section
set_option maxRecDepth 100000
namespace Mine
open PySem PySem.W
/-- a def of the text's top, by its place; a def of a class -/
noncomputable def partsOf : Stmt → Arguments × List Stmt × Scope
  | .FunctionDef _ a b _ _ _ sc _ _ _ => (a, b, sc)
  | _ => ({ posonlyargs := [], args := [], vararg := none, kwonlyargs := [], kw_defaults := [], kwarg := none, defaults := [] }, [], default)
noncomputable def inClass : Stmt → List Stmt
  | .ClassDef _ _ _ b _ _ _ _ _ _ _ => b
  | _ => []
noncomputable def fnA (i : Nat) : Arguments × List Stmt × Scope := partsOf (PySem.Challenge.pw_xm0991_03.main.body.getD i (.Pass ⟨0, 0, 0, 0⟩))
noncomputable def fnM (i j : Nat) : Arguments × List Stmt × Scope := partsOf ((inClass (PySem.Challenge.pw_xm0991_03.main.body.getD i (.Pass ⟨0, 0, 0, 0⟩))).getD j (.Pass ⟨0, 0, 0, 0⟩))
abbrev kh (P : Params) (x : Str) : Int := PySem.PyData.keyHash P x
/-- what the walk knows of the heap: the functions and classes that the law comes to -/
noncomputable def KP (P : Params) : Frag := [
  (2, { cls := Value.none, data := Data.dict #[] }),
  (3, { cls := Value.type "dict", data := Data.dict #[{ hash := kh P ("__name__"), key := Value.str (.ofString "__name__") 165, val := Value.str (.ofString "law_xm0991_03") 604 }, { hash := kh P ("__doc__"), key := Value.str (.ofString "__doc__") 166, val := Value.none }, { hash := kh P ("__package__"), key := Value.str (.ofString "__package__") 167, val := Value.none }, { hash := kh P ("__loader__"), key := Value.str (.ofString "__loader__") 168, val := Value.builtin "__main__.__loader__#opaque" }, { hash := kh P ("__spec__"), key := Value.str (.ofString "__spec__") 169, val := Value.none }, { hash := kh P ("__annotations__"), key := Value.str (.ofString "__annotations__") 170, val := Value.ref 6 }, { hash := kh P ("__builtins__"), key := Value.str (.ofString "__builtins__") 171, val := Value.ref 4 }, { hash := kh P ("__file__"), key := Value.str (.ofString "__file__") 173, val := Value.str (.ofString "/claim/cut.py") 172 }, { hash := kh P ("__cached__"), key := Value.str (.ofString "__cached__") 174, val := Value.none }, { hash := kh P ("_wall"), key := Value.str (.ofString "_wall") 193, val := Value.ref 21 }, { hash := kh P ("PressError"), key := Value.str (.ofString "PressError") 223, val := Value.ref 39 }, { hash := kh P ("BadArgument"), key := Value.str (.ofString "BadArgument") 239, val := Value.ref 52 }, { hash := kh P ("NOWHERE"), key := Value.str (.ofString "NOWHERE") 244, val := Value.int (-1) 243 }, { hash := kh P ("PlaceRow"), key := Value.str (.ofString "PlaceRow") 301, val := Value.ref 92 }, { hash := kh P ("Matcher"), key := Value.str (.ofString "Matcher") 429, val := Value.ref 183 }, { hash := kh P ("Finder"), key := Value.str (.ofString "Finder") 485, val := Value.ref 226 }, { hash := kh P ("TreeFinder"), key := Value.str (.ofString "TreeFinder") 555, val := Value.ref 274 }, { hash := kh P ("LayeredFinder"), key := Value.str (.ofString "LayeredFinder") 603, val := Value.ref 307 }, { hash := kh P ("_law_box"), key := Value.str (.ofString "_law_box") 615, val := Value.ref 316 }, { hash := kh P ("_law_take"), key := Value.str (.ofString "_law_take") 624, val := Value.ref 323 }, { hash := kh P ("_law_piece"), key := Value.str (.ofString "_law_piece") 630, val := Value.ref 328 }, { hash := kh P ("_law_text"), key := Value.str (.ofString "_law_text") 644, val := Value.ref 335 }, { hash := kh P ("_law_far"), key := Value.str (.ofString "_law_far") 650, val := Value.ref 340 }, { hash := kh P ("_law_less"), key := Value.str (.ofString "_law_less") 664, val := Value.ref 347 }, { hash := kh P ("_law_is_word"), key := Value.str (.ofString "_law_is_word") 674, val := Value.ref 354 }, { hash := kh P ("_law_words"), key := Value.str (.ofString "_law_words") 680, val := Value.ref 359 }, { hash := kh P ("_law_grown"), key := Value.str (.ofString "_law_grown") 686, val := Value.ref 364 }, { hash := kh P ("_law_ways"), key := Value.str (.ofString "_law_ways") 692, val := Value.ref 369 }, { hash := kh P ("_law_next"), key := Value.str (.ofString "_law_next") 702, val := Value.ref 376 }, { hash := kh P ("_law_row"), key := Value.str (.ofString "_law_row") 717, val := Value.ref 383 }, { hash := kh P ("_law_runs_right"), key := Value.str (.ofString "_law_runs_right") 723, val := Value.ref 388 }, { hash := kh P ("_law_joined"), key := Value.str (.ofString "_law_joined") 733, val := Value.ref 395 }, { hash := kh P ("_law_own"), key := Value.str (.ofString "_law_own") 745, val := Value.ref 402 }, { hash := kh P ("law"), key := Value.str (.ofString "law") 751, val := Value.ref 407 }] 34 }),
  (67, { cls := Value.type "code", data := Data.fields #[Value.str (.ofString "__init__") 257, Value.str (.ofString "PlaceRow.__init__") 258, Value.str (.ofString "/claim/cut.py") 259, Value.int 16 0, Value.int 3 0, Value.int 0 0, Value.int 0 0, Value.int 3 0, Value.ref 62, Value.bool Bool.true, Value.int 181 0, Value.ref 63, Value.none, Value.ref 64, Value.ref 65, Value.ref 66, Value.int 263 0, Value.int 16 0, Value.str (.ofString "/claim/cut.py") 264] }),
  (68, { cls := Value.type "function", data := Data.func { name := .ofString "__init__", qualname := .ofString "PlaceRow.__init__", params := (fnM 6 0).1, body := .stmts (fnM 6 0).2.1, scope := (fnM 6 0).2.2, globals := 3, closure := [], defaults := Value.none, kwdefaults := Value.none, doc := Value.none, pyModule := Value.str (.ofString "threepress.matches") 240, annotations := Option.none, code := Value.ref 67, closureTuple := Value.none, builtins := 0 } }),
  (91, { cls := Value.type "dict", data := Data.dict #[{ hash := kh P ("__module__"), key := Value.str (.ofString "__module__") 252, val := Value.str (.ofString "threepress.matches") 240 }, { hash := kh P ("__firstlineno__"), key := Value.str (.ofString "__firstlineno__") 256, val := Value.int 14 255 }, { hash := kh P ("__init__"), key := Value.str (.ofString "__init__") 265, val := Value.ref 68 }, { hash := kh P ("key"), key := Value.str (.ofString "key") 273, val := Value.ref 75 }, { hash := kh P ("put"), key := Value.str (.ofString "put") 281, val := Value.ref 82 }, { hash := kh P ("newest"), key := Value.str (.ofString "newest") 289, val := Value.ref 89 }, { hash := kh P ("__static_attributes__"), key := Value.str (.ofString "__static_attributes__") 294, val := Value.ref 90 }, { hash := kh P ("__dict__"), key := Value.str (.ofString "__dict__") 296, val := Value.ref 93 }, { hash := kh P ("__weakref__"), key := Value.str (.ofString "__weakref__") 298, val := Value.ref 94 }, { hash := kh P ("__doc__"), key := Value.str (.ofString "__doc__") 299, val := Value.none }] 4 }),
  (92, { cls := Value.type "type", data := Data.cls { name := .ofString "PlaceRow", bases := [Value.type "object"], mro := [Value.ref 92, Value.type "object"], ns := 91, qualname := .ofString "PlaceRow" }, slots := #[Option.none, Option.none, Option.some (Value.str (.ofString "PlaceRow") 245), Option.some (Value.str (.ofString "PlaceRow") 253), Option.some (Value.builtin "object.__new__"), Option.some (Value.bool Bool.true)] }),
  (93, { cls := Value.type "getset_descriptor", data := Data.fields #[Value.str (.ofString "__dict__") 295, Value.ref 92, Value.builtin "function.__dict__", Value.builtin "function.__dict__#set"] }),
  (94, { cls := Value.type "getset_descriptor", data := Data.fields #[Value.str (.ofString "__weakref__") 297, Value.ref 92, Value.builtin "ExceptionGroup.__weakref__", Value.none] }),
  (109, { cls := Value.type "code", data := Data.fields #[Value.str (.ofString "__init__") 314, Value.str (.ofString "Matcher.__init__") 315, Value.str (.ofString "/claim/cut.py") 316, Value.int 34 0, Value.int 5 0, Value.int 0 0, Value.int 0 0, Value.int 3 0, Value.ref 104, Value.bool Bool.true, Value.int 181 0, Value.ref 105, Value.none, Value.ref 106, Value.ref 107, Value.ref 108, Value.int 322 0, Value.int 34 0, Value.str (.ofString "/claim/cut.py") 323] }),
  (110, { cls := Value.type "function", data := Data.func { name := .ofString "__init__", qualname := .ofString "Matcher.__init__", params := (fnM 7 0).1, body := .stmts (fnM 7 0).2.1, scope := (fnM 7 0).2.2, globals := 3, closure := [], defaults := Value.none, kwdefaults := Value.none, doc := Value.none, pyModule := Value.str (.ofString "threepress.matches") 240, annotations := Option.none, code := Value.ref 109, closureTuple := Value.none, builtins := 0 } }),
  (137, { cls := Value.type "code", data := Data.fields #[Value.str (.ofString "limit") 349, Value.str (.ofString "Matcher.limit") 350, Value.str (.ofString "/claim/cut.py") 351, Value.int 56 0, Value.int 3 0, Value.int 0 0, Value.int 0 0, Value.int 3 0, Value.ref 132, Value.bool Bool.true, Value.int 181 0, Value.ref 133, Value.none, Value.ref 134, Value.ref 135, Value.ref 136, Value.int 355 0, Value.int 56 0, Value.str (.ofString "/claim/cut.py") 356] }),
  (138, { cls := Value.type "function", data := Data.func { name := .ofString "limit", qualname := .ofString "Matcher.limit", params := (fnM 7 4).1, body := .stmts (fnM 7 4).2.1, scope := (fnM 7 4).2.2, globals := 3, closure := [], defaults := Value.none, kwdefaults := Value.none, doc := Value.none, pyModule := Value.str (.ofString "threepress.matches") 240, annotations := Option.none, code := Value.ref 137, closureTuple := Value.none, builtins := 0 } }),
  (144, { cls := Value.type "code", data := Data.fields #[Value.str (.ofString "length") 358, Value.str (.ofString "Matcher.length") 359, Value.str (.ofString "/claim/cut.py") 360, Value.int 59 0, Value.int 4 0, Value.int 0 0, Value.int 0 0, Value.int 3 0, Value.ref 139, Value.bool Bool.true, Value.int 181 0, Value.ref 140, Value.none, Value.ref 141, Value.ref 142, Value.ref 143, Value.int 365 0, Value.int 59 0, Value.str (.ofString "/claim/cut.py") 366] }),
  (145, { cls := Value.type "function", data := Data.func { name := .ofString "length", qualname := .ofString "Matcher.length", params := (fnM 7 5).1, body := .stmts (fnM 7 5).2.1, scope := (fnM 7 5).2.2, globals := 3, closure := [], defaults := Value.none, kwdefaults := Value.none, doc := Value.none, pyModule := Value.str (.ofString "threepress.matches") 240, annotations := Option.none, code := Value.ref 144, closureTuple := Value.none, builtins := 0 } }),
  (151, { cls := Value.type "code", data := Data.fields #[Value.str (.ofString "alike") 368, Value.str (.ofString "Matcher.alike") 369, Value.str (.ofString "/claim/cut.py") 370, Value.int 64 0, Value.int 5 0, Value.int 0 0, Value.int 0 0, Value.int 3 0, Value.ref 146, Value.bool Bool.true, Value.int 181 0, Value.ref 147, Value.none, Value.ref 148, Value.ref 149, Value.ref 150, Value.int 377 0, Value.int 64 0, Value.str (.ofString "/claim/cut.py") 378] }),
  (152, { cls := Value.type "function", data := Data.func { name := .ofString "alike", qualname := .ofString "Matcher.alike", params := (fnM 7 6).1, body := .stmts (fnM 7 6).2.1, scope := (fnM 7 6).2.2, globals := 3, closure := [], defaults := Value.none, kwdefaults := Value.none, doc := Value.none, pyModule := Value.str (.ofString "threepress.matches") 240, annotations := Option.none, code := Value.ref 151, closureTuple := Value.none, builtins := 0 } }),
  (165, { cls := Value.type "code", data := Data.fields #[Value.str (.ofString "repeat") 389, Value.str (.ofString "Matcher.repeat") 390, Value.str (.ofString "/claim/cut.py") 391, Value.int 73 0, Value.int 4 0, Value.int 0 0, Value.int 0 0, Value.int 3 0, Value.ref 160, Value.bool Bool.true, Value.int 181 0, Value.ref 161, Value.none, Value.ref 162, Value.ref 163, Value.ref 164, Value.int 396 0, Value.int 73 0, Value.str (.ofString "/claim/cut.py") 397] }),
  (166, { cls := Value.type "function", data := Data.func { name := .ofString "repeat", qualname := .ofString "Matcher.repeat", params := (fnM 7 8).1, body := .stmts (fnM 7 8).2.1, scope := (fnM 7 8).2.2, globals := 3, closure := [], defaults := Value.none, kwdefaults := Value.none, doc := Value.none, pyModule := Value.str (.ofString "threepress.matches") 240, annotations := Option.none, code := Value.ref 165, closureTuple := Value.none, builtins := 0 } }),
  (182, { cls := Value.type "dict", data := Data.dict #[{ hash := kh P ("__module__"), key := Value.str (.ofString "__module__") 309, val := Value.str (.ofString "threepress.matches") 240 }, { hash := kh P ("__firstlineno__"), key := Value.str (.ofString "__firstlineno__") 313, val := Value.int 32 312 }, { hash := kh P ("__init__"), key := Value.str (.ofString "__init__") 324, val := Value.ref 110 }, { hash := kh P ("put"), key := Value.str (.ofString "put") 332, val := Value.ref 117 }, { hash := kh P ("enter"), key := Value.str (.ofString "enter") 340, val := Value.ref 124 }, { hash := kh P ("put_all"), key := Value.str (.ofString "put_all") 348, val := Value.ref 131 }, { hash := kh P ("limit"), key := Value.str (.ofString "limit") 357, val := Value.ref 138 }, { hash := kh P ("length"), key := Value.str (.ofString "length") 367, val := Value.ref 145 }, { hash := kh P ("alike"), key := Value.str (.ofString "alike") 379, val := Value.ref 152 }, { hash := kh P ("is_near"), key := Value.str (.ofString "is_near") 388, val := Value.ref 159 }, { hash := kh P ("repeat"), key := Value.str (.ofString "repeat") 398, val := Value.ref 166 }, { hash := kh P ("every"), key := Value.str (.ofString "every") 407, val := Value.ref 173 }, { hash := kh P ("best"), key := Value.str (.ofString "best") 416, val := Value.ref 180 }, { hash := kh P ("__static_attributes__"), key := Value.str (.ofString "__static_attributes__") 422, val := Value.ref 181 }, { hash := kh P ("__dict__"), key := Value.str (.ofString "__dict__") 424, val := Value.ref 184 }, { hash := kh P ("__weakref__"), key := Value.str (.ofString "__weakref__") 426, val := Value.ref 185 }, { hash := kh P ("__doc__"), key := Value.str (.ofString "__doc__") 427, val := Value.none }] 4 }),
  (183, { cls := Value.type "type", data := Data.cls { name := .ofString "Matcher", bases := [Value.type "object"], mro := [Value.ref 183, Value.type "object"], ns := 182, qualname := .ofString "Matcher", subclasses := [Value.ref 226, Value.ref 274, Value.ref 307] }, slots := #[Option.none, Option.none, Option.some (Value.str (.ofString "Matcher") 302), Option.some (Value.str (.ofString "Matcher") 310), Option.some (Value.builtin "object.__new__"), Option.some (Value.bool Bool.true)] }),
  (184, { cls := Value.type "getset_descriptor", data := Data.fields #[Value.str (.ofString "__dict__") 423, Value.ref 183, Value.builtin "function.__dict__", Value.builtin "function.__dict__#set"] }),
  (185, { cls := Value.type "getset_descriptor", data := Data.fields #[Value.str (.ofString "__weakref__") 425, Value.ref 183, Value.builtin "ExceptionGroup.__weakref__", Value.none] }),
  (195, { cls := Value.type "tuple", data := Data.seq #[Value.int 3 442, Value.int 32768 443, Value.int 32 444] }),
  (201, { cls := Value.type "code", data := Data.fields #[Value.str (.ofString "__init__") 445, Value.str (.ofString "Finder.__init__") 446, Value.str (.ofString "/claim/cut.py") 447, Value.int 85 0, Value.int 5 0, Value.int 0 0, Value.int 0 0, Value.int 3 0, Value.ref 196, Value.bool Bool.true, Value.int 181 0, Value.ref 197, Value.none, Value.ref 198, Value.ref 199, Value.ref 200, Value.int 453 0, Value.int 85 0, Value.str (.ofString "/claim/cut.py") 454] }),
  (202, { cls := Value.type "function", data := Data.func { name := .ofString "__init__", qualname := .ofString "Finder.__init__", params := (fnM 8 0).1, body := .stmts (fnM 8 0).2.1, scope := (fnM 8 0).2.2, globals := 3, closure := [], defaults := Value.ref 195, kwdefaults := Value.none, doc := Value.none, pyModule := Value.str (.ofString "threepress.matches") 240, annotations := Option.none, code := Value.ref 201, closureTuple := Value.none, builtins := 0 } }),
  (225, { cls := Value.type "dict", data := Data.dict #[{ hash := kh P ("__module__"), key := Value.str (.ofString "__module__") 437, val := Value.str (.ofString "threepress.matches") 240 }, { hash := kh P ("__firstlineno__"), key := Value.str (.ofString "__firstlineno__") 441, val := Value.int 83 440 }, { hash := kh P ("__init__"), key := Value.str (.ofString "__init__") 455, val := Value.ref 202 }, { hash := kh P ("enter"), key := Value.str (.ofString "enter") 463, val := Value.ref 209 }, { hash := kh P ("candidates"), key := Value.str (.ofString "candidates") 471, val := Value.ref 216 }, { hash := kh P ("every"), key := Value.str (.ofString "every") 480, val := Value.ref 223 }, { hash := kh P ("__static_attributes__"), key := Value.str (.ofString "__static_attributes__") 482, val := Value.ref 224 }, { hash := kh P ("__doc__"), key := Value.str (.ofString "__doc__") 483, val := Value.none }] 2 }),
  (226, { cls := Value.type "type", data := Data.cls { name := .ofString "Finder", bases := [Value.ref 183], mro := [Value.ref 226, Value.ref 183, Value.type "object"], ns := 225, qualname := .ofString "Finder" }, slots := #[Option.some (Value.ref 188), Option.none, Option.some (Value.str (.ofString "Finder") 430), Option.some (Value.str (.ofString "Finder") 438), Option.some (Value.builtin "object.__new__"), Option.some (Value.bool Bool.true)] }),
  (236, { cls := Value.type "tuple", data := Data.seq #[Value.int 3 498, Value.int 32768 499, Value.int 32 500] }),
  (242, { cls := Value.type "code", data := Data.fields #[Value.str (.ofString "__init__") 501, Value.str (.ofString "TreeFinder.__init__") 502, Value.str (.ofString "/claim/cut.py") 503, Value.int 99 0, Value.int 5 0, Value.int 0 0, Value.int 0 0, Value.int 3 0, Value.ref 237, Value.bool Bool.true, Value.int 181 0, Value.ref 238, Value.none, Value.ref 239, Value.ref 240, Value.ref 241, Value.int 509 0, Value.int 99 0, Value.str (.ofString "/claim/cut.py") 510] }),
  (243, { cls := Value.type "function", data := Data.func { name := .ofString "__init__", qualname := .ofString "TreeFinder.__init__", params := (fnM 9 0).1, body := .stmts (fnM 9 0).2.1, scope := (fnM 9 0).2.2, globals := 3, closure := [], defaults := Value.ref 236, kwdefaults := Value.none, doc := Value.none, pyModule := Value.str (.ofString "threepress.matches") 240, annotations := Option.none, code := Value.ref 242, closureTuple := Value.none, builtins := 0 } }),
  (273, { cls := Value.type "dict", data := Data.dict #[{ hash := kh P ("__module__"), key := Value.str (.ofString "__module__") 493, val := Value.str (.ofString "threepress.matches") 240 }, { hash := kh P ("__firstlineno__"), key := Value.str (.ofString "__firstlineno__") 497, val := Value.int 97 496 }, { hash := kh P ("__init__"), key := Value.str (.ofString "__init__") 511, val := Value.ref 243 }, { hash := kh P ("hang"), key := Value.str (.ofString "hang") 521, val := Value.ref 250 }, { hash := kh P ("enter"), key := Value.str (.ofString "enter") 529, val := Value.ref 257 }, { hash := kh P ("part"), key := Value.str (.ofString "part") 538, val := Value.ref 264 }, { hash := kh P ("every"), key := Value.str (.ofString "every") 547, val := Value.ref 271 }, { hash := kh P ("__static_attributes__"), key := Value.str (.ofString "__static_attributes__") 552, val := Value.ref 272 }, { hash := kh P ("__doc__"), key := Value.str (.ofString "__doc__") 553, val := Value.none }] 2 }),
  (274, { cls := Value.type "type", data := Data.cls { name := .ofString "TreeFinder", bases := [Value.ref 183], mro := [Value.ref 274, Value.ref 183, Value.type "object"], ns := 273, qualname := .ofString "TreeFinder" }, slots := #[Option.some (Value.ref 229), Option.none, Option.some (Value.str (.ofString "TreeFinder") 486), Option.some (Value.str (.ofString "TreeFinder") 494), Option.some (Value.builtin "object.__new__"), Option.some (Value.bool Bool.true)] }),
  (284, { cls := Value.type "tuple", data := Data.seq #[Value.int 2 568, Value.int 3 569] }),
  (285, { cls := Value.type "tuple", data := Data.seq #[Value.int 32768 573, Value.int 32 574] }),
  (289, { cls := Value.type "code", data := Data.fields #[Value.str (.ofString "__init__") 575, Value.str (.ofString "LayeredFinder.__init__") 576, Value.str (.ofString "/claim/cut.py") 577, Value.int 121 0, Value.int 4 0, Value.int 0 0, Value.int 0 0, Value.int 3 0, Value.ref 286, Value.bool Bool.true, Value.int 181 0, Value.ref 287, Value.none, Value.none, Value.none, Value.ref 288, Value.int 578 0, Value.int 121 0, Value.str (.ofString "/claim/cut.py") 579] }),
  (290, { cls := Value.type "function", data := Data.func { name := .ofString "__init__", qualname := .ofString "LayeredFinder.__init__", params := (fnM 10 2).1, body := .stmts (fnM 10 2).2.1, scope := (fnM 10 2).2.2, globals := 3, closure := [], defaults := Value.ref 285, kwdefaults := Value.none, doc := Value.none, pyModule := Value.str (.ofString "threepress.matches") 240, annotations := Option.none, code := Value.ref 289, closureTuple := Value.none, builtins := 0 } }),
  (306, { cls := Value.type "dict", data := Data.dict #[{ hash := kh P ("__module__"), key := Value.str (.ofString "__module__") 563, val := Value.str (.ofString "threepress.matches") 240 }, { hash := kh P ("__firstlineno__"), key := Value.str (.ofString "__firstlineno__") 567, val := Value.int 117 566 }, { hash := kh P ("LAYERS"), key := Value.str (.ofString "LAYERS") 570, val := Value.ref 284 }, { hash := kh P ("TREE"), key := Value.str (.ofString "TREE") 572, val := Value.int 4 571 }, { hash := kh P ("__init__"), key := Value.str (.ofString "__init__") 580, val := Value.ref 290 }, { hash := kh P ("enter"), key := Value.str (.ofString "enter") 588, val := Value.ref 297 }, { hash := kh P ("every"), key := Value.str (.ofString "every") 597, val := Value.ref 304 }, { hash := kh P ("__static_attributes__"), key := Value.str (.ofString "__static_attributes__") 600, val := Value.ref 305 }, { hash := kh P ("__doc__"), key := Value.str (.ofString "__doc__") 601, val := Value.none }] 2 }),
  (307, { cls := Value.type "type", data := Data.cls { name := .ofString "LayeredFinder", bases := [Value.ref 183], mro := [Value.ref 307, Value.ref 183, Value.type "object"], ns := 306, qualname := .ofString "LayeredFinder" }, slots := #[Option.some (Value.ref 277), Option.none, Option.some (Value.str (.ofString "LayeredFinder") 556), Option.some (Value.str (.ofString "LayeredFinder") 564), Option.some (Value.builtin "object.__new__"), Option.some (Value.bool Bool.true)] }),
  (315, { cls := Value.type "code", data := Data.fields #[Value.str (.ofString "_law_box") 606, Value.str (.ofString "_law_box") 607, Value.str (.ofString "/claim/cut.py") 608, Value.int 132 0, Value.int 1 0, Value.int 0 0, Value.int 0 0, Value.int 3 0, Value.ref 310, Value.bool Bool.true, Value.int 181 0, Value.ref 311, Value.none, Value.ref 312, Value.ref 313, Value.ref 314, Value.int 613 0, Value.int 132 0, Value.str (.ofString "/claim/cut.py") 614] }),
  (316, { cls := Value.type "function", data := Data.func { name := .ofString "_law_box", qualname := .ofString "_law_box", params := (fnA 12).1, body := .stmts (fnA 12).2.1, scope := (fnA 12).2.2, globals := 3, closure := [], defaults := Value.none, kwdefaults := Value.none, doc := Value.none, pyModule := Value.str (.ofString "law_xm0991_03") 604, annotations := Option.none, code := Value.ref 315, closureTuple := Value.none, builtins := 0 } }),
  (322, { cls := Value.type "code", data := Data.fields #[Value.str (.ofString "_law_take") 616, Value.str (.ofString "_law_take") 617, Value.str (.ofString "/claim/cut.py") 618, Value.int 140 0, Value.int 2 0, Value.int 0 0, Value.int 0 0, Value.int 3 0, Value.ref 317, Value.bool Bool.true, Value.int 181 0, Value.ref 318, Value.none, Value.ref 319, Value.ref 320, Value.ref 321, Value.int 622 0, Value.int 140 0, Value.str (.ofString "/claim/cut.py") 623] }),
  (323, { cls := Value.type "function", data := Data.func { name := .ofString "_law_take", qualname := .ofString "_law_take", params := (fnA 13).1, body := .stmts (fnA 13).2.1, scope := (fnA 13).2.2, globals := 3, closure := [], defaults := Value.none, kwdefaults := Value.none, doc := Value.none, pyModule := Value.str (.ofString "law_xm0991_03") 604, annotations := Option.none, code := Value.ref 322, closureTuple := Value.none, builtins := 0 } }),
  (327, { cls := Value.type "code", data := Data.fields #[Value.str (.ofString "_law_piece") 625, Value.str (.ofString "_law_piece") 626, Value.str (.ofString "/claim/cut.py") 627, Value.int 147 0, Value.int 2 0, Value.int 0 0, Value.int 0 0, Value.int 3 0, Value.ref 324, Value.bool Bool.true, Value.int 181 0, Value.ref 325, Value.none, Value.none, Value.none, Value.ref 326, Value.int 628 0, Value.int 147 0, Value.str (.ofString "/claim/cut.py") 629] }),
  (328, { cls := Value.type "function", data := Data.func { name := .ofString "_law_piece", qualname := .ofString "_law_piece", params := (fnA 14).1, body := .stmts (fnA 14).2.1, scope := (fnA 14).2.2, globals := 3, closure := [], defaults := Value.none, kwdefaults := Value.none, doc := Value.none, pyModule := Value.str (.ofString "law_xm0991_03") 604, annotations := Option.none, code := Value.ref 327, closureTuple := Value.none, builtins := 0 } }),
  (334, { cls := Value.type "code", data := Data.fields #[Value.str (.ofString "_law_text") 631, Value.str (.ofString "_law_text") 632, Value.str (.ofString "/claim/cut.py") 633, Value.int 150 0, Value.int 2 0, Value.int 0 0, Value.int 0 0, Value.int 3 0, Value.ref 329, Value.bool Bool.true, Value.int 181 0, Value.ref 330, Value.none, Value.ref 331, Value.ref 332, Value.ref 333, Value.int 642 0, Value.int 150 0, Value.str (.ofString "/claim/cut.py") 643] }),
  (335, { cls := Value.type "function", data := Data.func { name := .ofString "_law_text", qualname := .ofString "_law_text", params := (fnA 15).1, body := .stmts (fnA 15).2.1, scope := (fnA 15).2.2, globals := 3, closure := [], defaults := Value.none, kwdefaults := Value.none, doc := Value.none, pyModule := Value.str (.ofString "law_xm0991_03") 604, annotations := Option.none, code := Value.ref 334, closureTuple := Value.none, builtins := 0 } }),
  (339, { cls := Value.type "code", data := Data.fields #[Value.str (.ofString "_law_far") 645, Value.str (.ofString "_law_far") 646, Value.str (.ofString "/claim/cut.py") 647, Value.int 165 0, Value.int 2 0, Value.int 0 0, Value.int 0 0, Value.int 3 0, Value.ref 336, Value.bool Bool.true, Value.int 181 0, Value.ref 337, Value.none, Value.none, Value.none, Value.ref 338, Value.int 648 0, Value.int 165 0, Value.str (.ofString "/claim/cut.py") 649] }),
  (340, { cls := Value.type "function", data := Data.func { name := .ofString "_law_far", qualname := .ofString "_law_far", params := (fnA 16).1, body := .stmts (fnA 16).2.1, scope := (fnA 16).2.2, globals := 3, closure := [], defaults := Value.none, kwdefaults := Value.none, doc := Value.none, pyModule := Value.str (.ofString "law_xm0991_03") 604, annotations := Option.none, code := Value.ref 339, closureTuple := Value.none, builtins := 0 } }),
  (346, { cls := Value.type "code", data := Data.fields #[Value.str (.ofString "_law_less") 651, Value.str (.ofString "_law_less") 652, Value.str (.ofString "/claim/cut.py") 653, Value.int 167 0, Value.int 5 0, Value.int 0 0, Value.int 0 0, Value.int 3 0, Value.ref 341, Value.bool Bool.true, Value.int 181 0, Value.ref 342, Value.none, Value.ref 343, Value.ref 344, Value.ref 345, Value.int 662 0, Value.int 167 0, Value.str (.ofString "/claim/cut.py") 663] }),
  (347, { cls := Value.type "function", data := Data.func { name := .ofString "_law_less", qualname := .ofString "_law_less", params := (fnA 17).1, body := .stmts (fnA 17).2.1, scope := (fnA 17).2.2, globals := 3, closure := [], defaults := Value.none, kwdefaults := Value.none, doc := Value.none, pyModule := Value.str (.ofString "law_xm0991_03") 604, annotations := Option.none, code := Value.ref 346, closureTuple := Value.none, builtins := 0 } }),
  (353, { cls := Value.type "code", data := Data.fields #[Value.str (.ofString "_law_is_word") 665, Value.str (.ofString "_law_is_word") 666, Value.str (.ofString "/claim/cut.py") 667, Value.int 173 0, Value.int 3 0, Value.int 0 0, Value.int 0 0, Value.int 3 0, Value.ref 348, Value.bool Bool.true, Value.int 181 0, Value.ref 349, Value.none, Value.ref 350, Value.ref 351, Value.ref 352, Value.int 672 0, Value.int 173 0, Value.str (.ofString "/claim/cut.py") 673] }),
  (354, { cls := Value.type "function", data := Data.func { name := .ofString "_law_is_word", qualname := .ofString "_law_is_word", params := (fnA 18).1, body := .stmts (fnA 18).2.1, scope := (fnA 18).2.2, globals := 3, closure := [], defaults := Value.none, kwdefaults := Value.none, doc := Value.none, pyModule := Value.str (.ofString "law_xm0991_03") 604, annotations := Option.none, code := Value.ref 353, closureTuple := Value.none, builtins := 0 } }),
  (358, { cls := Value.type "code", data := Data.fields #[Value.str (.ofString "_law_words") 675, Value.str (.ofString "_law_words") 676, Value.str (.ofString "/claim/cut.py") 677, Value.int 178 0, Value.int 2 0, Value.int 0 0, Value.int 0 0, Value.int 3 0, Value.ref 355, Value.bool Bool.true, Value.int 181 0, Value.ref 356, Value.none, Value.none, Value.none, Value.ref 357, Value.int 678 0, Value.int 178 0, Value.str (.ofString "/claim/cut.py") 679] }),
  (359, { cls := Value.type "function", data := Data.func { name := .ofString "_law_words", qualname := .ofString "_law_words", params := (fnA 19).1, body := .stmts (fnA 19).2.1, scope := (fnA 19).2.2, globals := 3, closure := [], defaults := Value.none, kwdefaults := Value.none, doc := Value.none, pyModule := Value.str (.ofString "law_xm0991_03") 604, annotations := Option.none, code := Value.ref 358, closureTuple := Value.none, builtins := 0 } }),
  (363, { cls := Value.type "code", data := Data.fields #[Value.str (.ofString "_law_grown") 681, Value.str (.ofString "_law_grown") 682, Value.str (.ofString "/claim/cut.py") 683, Value.int 180 0, Value.int 2 0, Value.int 0 0, Value.int 0 0, Value.int 3 0, Value.ref 360, Value.bool Bool.true, Value.int 181 0, Value.ref 361, Value.none, Value.none, Value.none, Value.ref 362, Value.int 684 0, Value.int 180 0, Value.str (.ofString "/claim/cut.py") 685] }),
  (364, { cls := Value.type "function", data := Data.func { name := .ofString "_law_grown", qualname := .ofString "_law_grown", params := (fnA 20).1, body := .stmts (fnA 20).2.1, scope := (fnA 20).2.2, globals := 3, closure := [], defaults := Value.none, kwdefaults := Value.none, doc := Value.none, pyModule := Value.str (.ofString "law_xm0991_03") 604, annotations := Option.none, code := Value.ref 363, closureTuple := Value.none, builtins := 0 } }),
  (368, { cls := Value.type "code", data := Data.fields #[Value.str (.ofString "_law_ways") 687, Value.str (.ofString "_law_ways") 688, Value.str (.ofString "/claim/cut.py") 689, Value.int 190 0, Value.int 2 0, Value.int 0 0, Value.int 0 0, Value.int 3 0, Value.ref 365, Value.bool Bool.true, Value.int 181 0, Value.ref 366, Value.none, Value.none, Value.none, Value.ref 367, Value.int 690 0, Value.int 190 0, Value.str (.ofString "/claim/cut.py") 691] }),
  (369, { cls := Value.type "function", data := Data.func { name := .ofString "_law_ways", qualname := .ofString "_law_ways", params := (fnA 21).1, body := .stmts (fnA 21).2.1, scope := (fnA 21).2.2, globals := 3, closure := [], defaults := Value.none, kwdefaults := Value.none, doc := Value.none, pyModule := Value.str (.ofString "law_xm0991_03") 604, annotations := Option.none, code := Value.ref 368, closureTuple := Value.none, builtins := 0 } }),
  (375, { cls := Value.type "code", data := Data.fields #[Value.str (.ofString "_law_next") 693, Value.str (.ofString "_law_next") 694, Value.str (.ofString "/claim/cut.py") 695, Value.int 202 0, Value.int 3 0, Value.int 0 0, Value.int 0 0, Value.int 3 0, Value.ref 370, Value.bool Bool.true, Value.int 181 0, Value.ref 371, Value.none, Value.ref 372, Value.ref 373, Value.ref 374, Value.int 700 0, Value.int 202 0, Value.str (.ofString "/claim/cut.py") 701] }),
  (376, { cls := Value.type "function", data := Data.func { name := .ofString "_law_next", qualname := .ofString "_law_next", params := (fnA 22).1, body := .stmts (fnA 22).2.1, scope := (fnA 22).2.2, globals := 3, closure := [], defaults := Value.none, kwdefaults := Value.none, doc := Value.none, pyModule := Value.str (.ofString "law_xm0991_03") 604, annotations := Option.none, code := Value.ref 375, closureTuple := Value.none, builtins := 0 } }),
  (382, { cls := Value.type "code", data := Data.fields #[Value.str (.ofString "_law_row") 703, Value.str (.ofString "_law_row") 704, Value.str (.ofString "/claim/cut.py") 705, Value.int 207 0, Value.int 4 0, Value.int 0 0, Value.int 0 0, Value.int 3 0, Value.ref 377, Value.bool Bool.true, Value.int 181 0, Value.ref 378, Value.none, Value.ref 379, Value.ref 380, Value.ref 381, Value.int 715 0, Value.int 207 0, Value.str (.ofString "/claim/cut.py") 716] }),
  (383, { cls := Value.type "function", data := Data.func { name := .ofString "_law_row", qualname := .ofString "_law_row", params := (fnA 23).1, body := .stmts (fnA 23).2.1, scope := (fnA 23).2.2, globals := 3, closure := [], defaults := Value.none, kwdefaults := Value.none, doc := Value.none, pyModule := Value.str (.ofString "law_xm0991_03") 604, annotations := Option.none, code := Value.ref 382, closureTuple := Value.none, builtins := 0 } }),
  (387, { cls := Value.type "code", data := Data.fields #[Value.str (.ofString "_law_runs_right") 718, Value.str (.ofString "_law_runs_right") 719, Value.str (.ofString "/claim/cut.py") 720, Value.int 217 0, Value.int 3 0, Value.int 0 0, Value.int 0 0, Value.int 3 0, Value.ref 384, Value.bool Bool.true, Value.int 181 0, Value.ref 385, Value.none, Value.none, Value.none, Value.ref 386, Value.int 721 0, Value.int 217 0, Value.str (.ofString "/claim/cut.py") 722] }),
  (388, { cls := Value.type "function", data := Data.func { name := .ofString "_law_runs_right", qualname := .ofString "_law_runs_right", params := (fnA 24).1, body := .stmts (fnA 24).2.1, scope := (fnA 24).2.2, globals := 3, closure := [], defaults := Value.none, kwdefaults := Value.none, doc := Value.none, pyModule := Value.str (.ofString "law_xm0991_03") 604, annotations := Option.none, code := Value.ref 387, closureTuple := Value.none, builtins := 0 } }),
  (394, { cls := Value.type "code", data := Data.fields #[Value.str (.ofString "_law_joined") 724, Value.str (.ofString "_law_joined") 725, Value.str (.ofString "/claim/cut.py") 726, Value.int 228 0, Value.int 2 0, Value.int 0 0, Value.int 0 0, Value.int 3 0, Value.ref 389, Value.bool Bool.true, Value.int 181 0, Value.ref 390, Value.none, Value.ref 391, Value.ref 392, Value.ref 393, Value.int 731 0, Value.int 228 0, Value.str (.ofString "/claim/cut.py") 732] }),
  (395, { cls := Value.type "function", data := Data.func { name := .ofString "_law_joined", qualname := .ofString "_law_joined", params := (fnA 25).1, body := .stmts (fnA 25).2.1, scope := (fnA 25).2.2, globals := 3, closure := [], defaults := Value.none, kwdefaults := Value.none, doc := Value.none, pyModule := Value.str (.ofString "law_xm0991_03") 604, annotations := Option.none, code := Value.ref 394, closureTuple := Value.none, builtins := 0 } }),
  (401, { cls := Value.type "code", data := Data.fields #[Value.str (.ofString "_law_own") 734, Value.str (.ofString "_law_own") 735, Value.str (.ofString "/claim/cut.py") 736, Value.int 235 0, Value.int 1 0, Value.int 0 0, Value.int 0 0, Value.int 3 0, Value.ref 396, Value.bool Bool.true, Value.int 181 0, Value.ref 397, Value.none, Value.ref 398, Value.ref 399, Value.ref 400, Value.int 743 0, Value.int 235 0, Value.str (.ofString "/claim/cut.py") 744] }),
  (402, { cls := Value.type "function", data := Data.func { name := .ofString "_law_own", qualname := .ofString "_law_own", params := (fnA 26).1, body := .stmts (fnA 26).2.1, scope := (fnA 26).2.2, globals := 3, closure := [], defaults := Value.none, kwdefaults := Value.none, doc := Value.none, pyModule := Value.str (.ofString "law_xm0991_03") 604, annotations := Option.none, code := Value.ref 401, closureTuple := Value.none, builtins := 0 } }),
  (406, { cls := Value.type "code", data := Data.fields #[Value.str (.ofString "law") 746, Value.str (.ofString "law") 747, Value.str (.ofString "/claim/cut.py") 748, Value.int 246 0, Value.int 1 0, Value.int 0 0, Value.int 0 0, Value.int 3 0, Value.ref 403, Value.bool Bool.true, Value.int 181 0, Value.ref 404, Value.none, Value.none, Value.none, Value.ref 405, Value.int 749 0, Value.int 246 0, Value.str (.ofString "/claim/cut.py") 750] }),
  (407, { cls := Value.type "function", data := Data.func { name := .ofString "law", qualname := .ofString "law", params := (fnA 27).1, body := .stmts (fnA 27).2.1, scope := (fnA 27).2.2, globals := 3, closure := [], defaults := Value.none, kwdefaults := Value.none, doc := Value.none, pyModule := Value.str (.ofString "law_xm0991_03") 604, annotations := Option.none, code := Value.ref 406, closureTuple := Value.none, builtins := 0 } })]
end Mine
end
section
set_option linter.unusedVariables false
namespace Mine
/-- the text's end from p (up to e) is less than the one from q -/
noncomputable def Lt (f : Nat → Int) (e p q : Nat) : Prop := ∃ c, q + c < e ∧ (∀ i, i < c → f (p + i) = f (q + i)) ∧ (p + c = e ∨ (p + c < e ∧ f (p + c) < f (q + c)))
section
variable {f : Nat → Int} {e p q r b g m n : Nat}
theorem Lt.irrefl (h : Lt f e p p) : False := by
  obtain ⟨c, h1, h2, h3⟩ := h
  rcases h3 with h3 | h3 <;> lia
theorem Lt.trans (h : Lt f e p q) (k : Lt f e q r) : Lt f e p r := by
  obtain ⟨c, h1, h2, h3⟩ := h
  obtain ⟨d, k1, k2, k3⟩ := k
  rcases Nat.lt_trichotomy c d with l | l | l
  · refine ⟨c, by (clear h1; lia), fun i hi => (h2 i hi).trans (k2 i (by lia)), ?_⟩
    rcases h3 with h3 | h3
    · exact .inl h3
    · exact .inr ⟨h3.1, by rw [← k2 c l]; exact h3.2⟩
  · subst l
    refine ⟨c, by omega, fun i hi => (h2 i hi).trans (k2 i (by omega)), ?_⟩
    rcases h3 with h3 | h3
    · exact .inl h3
    · rcases k3 with k3 | k3
      · lia
      · exact .inr ⟨h3.1, by lia⟩
  · refine ⟨d, by omega, fun i hi => (h2 i (by lia)).trans (k2 i hi), .inr ?_⟩
    rcases k3 with k3 | k3
    · lia
    · rcases h3 with h3 | h3 <;> exact ⟨by lia, by rw [h2 d l]; exact k3.2⟩
theorem first_diff (f : Nat → Int) (p q : Nat) : ∀ k, ∃ c, c ≤ k ∧ (∀ i, i < c → f (p + i) = f (q + i)) ∧ (c = k ∨ f (p + c) ≠ f (q + c))
  | 0 => ⟨0, Nat.le_refl _, fun i hi => absurd hi (Nat.not_lt_zero _), .inl rfl⟩
  | k + 1 => by
    obtain ⟨c, h1, h2, h3⟩ := first_diff f p q k
    by_cases h : f (p + c) = f (q + c)
    · have hc : c = k := h3.resolve_right (fun x => x h)
      subst hc
      refine ⟨c + 1, Nat.le_refl _, fun i hi => ?_, .inl rfl⟩
      by_cases l : i = c
      · subst l; exact h
      · exact h2 i (by lia)
    · exact ⟨c, by lia, h2, .inr h⟩
theorem Lt.total (hp : p ≤ e) (hq : q ≤ e) (h : p ≠ q) : Lt f e p q ∨ Lt f e q p := by
  rcases Nat.lt_or_ge p q with l | l
  · obtain ⟨c, h1, h2, h3⟩ := first_diff f p q (e - q)
    by_cases hc : c = e - q
    · right
      exact ⟨c, by (clear hp h hc; lia), fun i hi => (h2 i hi).symm, .inl (by (clear hp; lia))⟩
    · have h3 := h3.resolve_left hc
      rcases Int.lt_or_gt_of_ne h3 with u | u
      · left; exact ⟨c, by (clear l; lia), h2, .inr ⟨by (clear hp hq; lia), u⟩⟩
      · right; exact ⟨c, by (clear hp hq; lia), fun i hi => (h2 i hi).symm, .inr ⟨by (clear l; lia), u⟩⟩
  · obtain ⟨c, h1, h2, h3⟩ := first_diff f p q (e - p)
    by_cases hc : c = e - p
    · left
      exact ⟨c, by (clear hc; lia), h2, .inl (by lia)⟩
    · have h3 := h3.resolve_left hc
      rcases Int.lt_or_gt_of_ne h3 with u | u
      · left; exact ⟨c, by (clear hc; lia), h2, .inr ⟨by (clear l; lia), u⟩⟩
      · right; exact ⟨c, by (clear l; lia), fun i hi => (h2 i hi).symm, .inr ⟨by (clear hc; lia), u⟩⟩
theorem Lt.asymm (h : Lt f e p q) (k : Lt f e q p) : False := (h.trans k).irrefl
/-- the place of difference, when the lesser one is the longer -/
theorem Lt.strict (h : Lt f e b p) (hb : b ≤ p) : ∃ c, p + c < e ∧ (∀ i, i < c → f (b + i) = f (p + i)) ∧ f (b + c) < f (p + c) := by
  obtain ⟨c, h1, h2, h3⟩ := h
  rcases h3 with h3 | h3
  · omega
  · exact ⟨c, h1, h2, h3.2⟩
theorem Lt.of_strict {c : Nat} (hb : b ≤ p) (h1 : p + c < e) (h2 : ∀ i, i < c → f (b + i) = f (p + i)) (h3 : f (b + c) < f (p + c)) : Lt f e b p := ⟨c, h1, h2, .inr ⟨by lia, h3⟩⟩
theorem Lt.mono {e' : Nat} (h : Lt f e b p) (hb : b ≤ p) (he : e ≤ e') : Lt f e' b p := by
  obtain ⟨c, h1, h2, h3⟩ := h.strict hb
  exact .of_strict hb (by (clear hb; lia)) h2 h3
theorem Lt.shift {k : Nat} (h : Lt f e p q) (hk : ∀ i, i < k → f (p + i) = f (q + i)) (h1 : p + k ≤ e) (h2 : q + k ≤ e) : Lt f e (p + k) (q + k) := by
  obtain ⟨c, g1, g2, g3⟩ := h
  have hc : k ≤ c := by
    apply Classical.byContradiction
    intro l
    have := hk c (by lia)
    rcases g3 with g3 | g3 <;> lia
  refine ⟨c - k, by (clear h1; lia), fun i hi => ?_, ?_⟩
  · have := g2 (k + i) (by (clear h1 hc; omega))
    rw [Nat.add_assoc, Nat.add_assoc]; exact this
  · have e1 : p + k + (c - k) = p + c := by lia
    have e2 : q + k + (c - k) = q + c := by lia
    rw [e1, e2]; exact g3
theorem Lt.unshift {k : Nat} (h : Lt f e (p + k) (q + k)) (hk : ∀ i, i < k → f (p + i) = f (q + i)) : Lt f e p q := by
  obtain ⟨c, g1, g2, g3⟩ := h
  refine ⟨k + c, by lia, fun i hi => ?_, ?_⟩
  · by_cases l : i < k
    · exact hk i l
    · have := g2 (i - k) (by (clear g1; omega))
      rw [show p + k + (i - k) = p + i by lia, show q + k + (i - k) = q + i by lia] at this
      exact this
  · rw [show p + (k + c) = p + k + c by lia, show q + (k + c) = q + k + c by lia]; exact g3
/-- a Lyndon word -/
noncomputable def LYN (f : Nat → Int) (b e : Nat) : Prop := b < e ∧ ∀ p, b < p → p < e → Lt f e b p
/-- the next place with a lesser end -/
structure IsN (f : Nat → Int) (e b g : Nat) : Prop where
  lt : b < g
  le : g ≤ e
  mid : ∀ p, b < p → p < g → Lt f e b p
  fin : g = e ∨ Lt f e g b
theorem IsN.exists (f : Nat → Int) {e b : Nat} (h : b < e) : ∃ g, IsN f e b g := by
  have key : ∀ k, b + 1 + k ≤ e → (∃ g, IsN f e b g) ∨ ∀ p, b < p → p < b + 1 + k → Lt f e b p := by
    intro k
    induction k with
    | zero => intro _; right; intro p h1 h2; lia
    | succ k ih =>
      intro hk
      rcases ih (by lia) with h1 | h1
      · exact .inl h1
      · rcases Lt.total (f := f) (e := e) (p := b) (q := b + 1 + k) (by lia) (by lia) (by lia) with h2 | h2
        · right; intro p p1 p2
          by_cases hp : p = b + 1 + k
          · subst hp; exact h2
          · exact h1 p p1 (by (clear h2; lia))
        · left; exact ⟨b + 1 + k, by (clear h2; lia), by lia, h1, .inr h2⟩
  rcases key (e - b - 1) (by omega) with h1 | h1
  · exact h1
  · exact ⟨e, h, Nat.le_refl _, fun p p1 p2 => h1 p p1 (by (clear h; omega)), .inl rfl⟩
theorem IsN.unique {g' : Nat} (h : IsN f e b g) (k : IsN f e b g') : g = g' := by
  rcases Nat.lt_trichotomy g g' with l | l | l
  · rcases h.fin with x | x
    · have := k.le; lia
    · exact ((k.mid g h.lt l).asymm x).elim
  · exact l
  · rcases k.fin with x | x
    · have := h.le; lia
    · exact ((h.mid g' k.lt l).asymm x).elim
theorem IsN.lyn (h : IsN f e b g) : LYN f b g := by
  refine ⟨h.lt, fun p p1 p2 => ?_⟩
  have hp := h.mid p p1 p2
  obtain ⟨c, h1, h2, h3⟩ := hp.strict (by lia)
  by_cases hc : p + c < g
  · exact .of_strict (by lia) hc h2 h3
  · exfalso
    have hlt : g < e := by (clear p2; lia)
    have gb : Lt f e g b := h.fin.resolve_left (by lia)
    have hj := h.mid (b + (g - p)) (by lia) (by lia)
    have hs := hp.shift (k := g - p) (fun i hi => h2 i (by lia)) (by (clear hc; lia)) (by (clear hc; lia))
    rw [show p + (g - p) = g by lia] at hs
    exact (hj.trans hs).asymm gb
theorem IsN.max {g' : Nat} (h : IsN f e b g) (k : LYN f b g') (he : g' ≤ e) : g' ≤ g := by
  apply Classical.byContradiction
  intro l
  have hg : g < e := by lia
  have := (k.2 g h.lt (by lia)).mono (by have := h.lt; lia) he
  exact this.asymm (h.fin.resolve_left (by lia))
theorem IsN.of_max (k : LYN f b g) (he : g ≤ e) (hm : ∀ g', LYN f b g' → g' ≤ e → g' ≤ g) : IsN f e b g := by
  obtain ⟨g', h⟩ := IsN.exists f (e := e) (b := b) (by have := k.1; lia)
  have h1 := h.max k he
  have h2 := hm g' h.lyn h.le
  have : g = g' := by lia
  exact this ▸ h
/-- the word b..m is less than the word m..e -/
noncomputable def UV (f : Nat → Int) (b m e : Nat) : Prop := ∃ c, (∀ i, i < c → f (b + i) = f (m + i)) ∧ m + c < e ∧ (b + c = m ∨ (b + c < m ∧ f (b + c) < f (m + c)))
theorem UV.lt (h : UV f b m e) (hm : LYN f m e) (hb : b < m) : Lt f e b m := by
  obtain ⟨c, h1, h2, h3⟩ := h
  rcases h3 with h3 | h3
  · have := hm.2 (m + c) (by lia) (by omega)
    have : Lt f e (b + c) (m + c) := by rw [h3]; exact this
    exact this.unshift h1
  · exact ⟨c, h2, h1, .inr ⟨by lia, h3.2⟩⟩
/-- two Lyndon words, the first less: together one -/
theorem LYN.concat (hb : LYN f b m) (hm : LYN f m e) (h : UV f b m e) : LYN f b e := by
  have h0 := h.lt hm hb.1
  refine ⟨Nat.lt_trans hb.1 hm.1, fun p p1 p2 => ?_⟩
  rcases Nat.lt_trichotomy p m with l | l | l
  · exact (hb.2 p p1 l).mono (by lia) (Nat.le_of_lt hm.1)
  · subst l; exact h0
  · exact h0.trans (hm.2 p l p2)
theorem LYN.uv (h : LYN f b e) (h1 : b < m) (h2 : m < e) : UV f b m e := by
  obtain ⟨c, g1, g2, g3⟩ := (h.2 m h1 h2).strict (by lia)
  by_cases hc : b + c < m
  · exact ⟨c, g2, g1, .inr ⟨hc, g3⟩⟩
  · exact ⟨m - b, fun i hi => g2 i (by lia), by (clear h2; lia), .inl (by lia)⟩
/-- the least of the ends from a up to e -/
theorem least_end (f : Nat → Int) (e : Nat) : ∀ k, k + 1 ≤ e → ∃ m, e - (k + 1) ≤ m ∧ m < e ∧ ∀ p, e - (k + 1) ≤ p → p < e → p ≠ m → Lt f e m p
  | 0, h => ⟨e - 1, by lia, by omega, fun p p1 p2 p3 => by lia⟩
  | k + 1, h => by
    obtain ⟨m, h1, h2, h3⟩ := least_end f e k (by lia)
    rcases Lt.total (f := f) (e := e) (p := e - (k + 2)) (q := m) (by (clear h h1; omega)) (by lia) (by lia) with l | l
    · refine ⟨e - (k + 2), by lia, by (clear h h1; omega), fun p p1 p2 p3 => ?_⟩
      by_cases hp : p = m
      · subst hp; exact l
      · exact l.trans (h3 p (by lia) p2 hp)
    · refine ⟨m, by (clear h; omega), h2, fun p p1 p2 p3 => ?_⟩
      by_cases hp : p = e - (k + 2)
      · subst hp; exact l
      · exact h3 p (by lia) p2 p3
theorem LYN.split (h : LYN f b e) (h1 : b + 1 < e) : ∃ m, b < m ∧ m < e ∧ LYN f b m ∧ LYN f m e := by
  obtain ⟨m, m1, m2, m3⟩ := least_end f e (e - b - 2) (by omega)
  have hm : LYN f m e := ⟨m2, fun p p1 p2 => m3 p (by lia) p2 (by lia)⟩
  refine ⟨m, by omega, m2, ⟨by omega, fun p p1 p2 => ?_⟩, hm⟩
  have hp := h.2 p p1 (by (clear h1; lia))
  obtain ⟨c, g1, g2, g3⟩ := hp.strict (by lia)
  by_cases hc : p + c < m
  · exact .of_strict (by lia) hc g2 g3
  · exfalso
    have hs := hp.shift (k := m - p) (fun i hi => g2 i (by lia)) (by (clear p2; lia)) (by (clear h1; lia))
    rw [show p + (m - p) = m by lia] at hs
    exact hs.asymm (m3 _ (by (clear h1 g3; omega)) (by (clear p2; lia)) (by lia))
theorem LYN.one (f : Nat → Int) (b : Nat) : LYN f b (b + 1) := ⟨Nat.lt_succ_self _, fun p p1 p2 => by lia⟩
/-- what stands between two ends of one beginning begins so -/
theorem between {B k : Nat} (h1 : Lt f n b B) (h2 : Lt f n B e) (hk : ∀ i, i < k → f (b + i) = f (e + i)) (hb : b + k ≤ n) (he : e + k ≤ n) : B + k ≤ n ∧ ∀ i, i < k → f (b + i) = f (B + i) := by
  obtain ⟨c, g1, g2, g3⟩ := h1
  obtain ⟨d, k1, k2, k3⟩ := h2
  have hc : k ≤ c := by
    apply Classical.byContradiction
    intro l
    have e1 := hk c (by lia)
    rcases Nat.lt_trichotomy c d with m | m | m
    · have := k2 c m
      rcases g3 with g3 | g3 <;> lia
    · subst m
      rcases g3 with g3 | g3 <;> rcases k3 with k3 | k3 <;> lia
    · have := g2 d m
      have := hk d (by lia)
      rcases k3 with k3 | k3 <;> lia
  exact ⟨by lia, fun i hi => g2 i (by lia)⟩
theorem no_between {k A g0 : Nat} (hk0 : 0 < k) (hk : ∀ i, i < k → f (b + i) = f (e + i)) (hA : b + k = A) (hg : e + k = g0) (hb : A ≤ n) (he : g0 ≤ n) (h1 : Lt f n b A) (h2 : Lt f n g0 e) :
    ∀ (j B : Nat), n - B ≤ j → Lt f n A B → Lt f n B e → False := by
  intro j
  induction j with
  | zero =>
    intro B hB a1 a2
    obtain ⟨x, _⟩ := between (h1.trans a1) a2 hk (by lia) (by lia)
    lia
  | succ j ih =>
    intro B hB a1 a2
    obtain ⟨x, y⟩ := between (h1.trans a1) a2 hk (by lia) (by lia)
    have s1 := (h1.trans a1).shift y (by lia) x
    have s2 := a2.shift (k := k) (fun i hi => (y i hi).symm.trans (hk i hi)) x (by lia)
    rw [hA] at s1
    rw [hg] at s2
    exact ih (B + k) (by (clear hA hg x; omega)) s1 (s2.trans h2)
/-- the longest word: the next one is not greater -/
theorem IsN.iff (hb : LYN f b e) (hn : e < n) (hg : IsN f n e g) : IsN f n b e ↔ ¬ UV f b e g := by
  constructor
  · intro h u
    have := h.max (hb.concat hg.lyn u) hg.le
    have := hg.lt; lia
  · intro hu
    obtain ⟨G, hG⟩ := IsN.exists f (e := n) (b := b) (by have := hb.1; lia)
    have h1 := hG.max hb (by lia)
    by_cases hGe : e = G
    · exact hGe ▸ hG
    · exfalso
      apply hu
      have hb1 := hb.1
      have hlt := hG.mid e hb.1 (by lia)
      obtain ⟨c, g1, g2, g3⟩ := hlt.strict (by lia)
      by_cases c1 : c < g - e
      · by_cases c2 : c < e - b
        · exact ⟨c, g2, by (clear h1 hb1 g3 c2; omega), .inr ⟨by (clear hn h1 hb1 g1 g3 c1; omega), g3⟩⟩
        · exact ⟨e - b, fun i hi => g2 i (by lia), by (clear h1 hb1; omega), .inl (by lia)⟩
      · by_cases c2 : e - b < g - e
        · exact ⟨e - b, fun i hi => g2 i (by lia), by (clear h1 hb1 g3; omega), .inl (by lia)⟩
        · exfalso
          have hgn : g < n := by lia
          have gl := hg.lt
          have hge : Lt f n g e := hg.fin.resolve_left (by lia)
          have hA := hG.mid (b + (g - e)) (by lia) (by lia)
          have hs := hlt.shift (k := g - e) (fun i hi => g2 i (by lia)) (by lia) (by lia)
          rw [show e + (g - e) = g by lia] at hs
          exact no_between (k := g - e) (by lia) (fun i hi => g2 i (by lia)) rfl (by lia) (by lia) hg.le hA hge _ g (Nat.le_refl _) hs hge
end
end Mine
end
section
set_option linter.unusedVariables false
namespace Mine
section
variable {f : Nat → Int} {e p q r b g m n s a h : Nat}
/-- a word said once more -/
theorem IsN.next (hi : IsN f n b h) (hs : h = b + s) (heq : ∀ i, i < s → f (b + i) = f (h + i)) (hn : h + s ≤ n) : IsN f n h (h + s) := by
  have hlt := hi.lt
  refine ⟨by lia, hn, fun p p1 p2 => ?_, ?_⟩
  · obtain ⟨c, g1, g2, g3⟩ := (hi.lyn.2 (p - s) (by lia) (by (clear hs hn p1; omega))).strict (by lia)
    have tr : ∀ i, i ≤ c → f (p + i) = f (p - s + i) := fun i hi => by
      have := heq (p - s + i - b) (by (clear hn p1 p2 g3; omega))
      rw [show b + (p - s + i - b) = p - s + i by lia, show h + (p - s + i - b) = p + i by lia] at this
      exact this.symm
    refine .of_strict (c := c) (by (clear hs; lia)) (by (clear hs; lia)) (fun i hi => ?_) ?_
    · rw [tr i (by lia), ← heq i (by (clear hs; lia))]; exact g2 i hi
    · rw [tr c (by lia), ← heq c (by (clear hs; lia))]; exact g3
  · by_cases x : h + s = n
    · exact .inl x
    · right
      have := (hi.fin.resolve_left (by (clear x; lia))).shift (k := s) (fun i hi => (heq i hi).symm) (by omega) (by (clear hlt x; lia))
      rw [show b + s = h by lia] at this
      exact this
theorem IsN.many (hi : IsN f n b (b + s)) {c : Nat} (hc : ∀ i, i < c → f (b + i) = f (b + s + i)) (hn : b + s + c ≤ n) : ∀ t, t * s ≤ c → IsN f n (b + t * s) (b + (t + 1) * s)
  | 0, _ => by simpa using hi
  | t + 1, ht => by
    have e1 : (t + 1) * s = t * s + s := Nat.succ_mul t s
    have e2 : (t + 1 + 1) * s = t * s + s + s := by rw [Nat.succ_mul, e1]
    have ih := IsN.many hi hc hn t (by (clear hn; lia))
    have := ih.next (s := s) (by lia) (fun i hi => ?_) (by (clear ih; lia))
    · rw [e2]
      rw [e1, show b + (t * s + s) + s = b + (t * s + s + s) by (clear this; lia)] at this
      rw [e1]; exact this
    · have := hc (t * s + i) (by (clear hn; lia))
      rw [show b + (t * s + i) = b + t * s + i by (clear this; lia), show b + s + (t * s + i) = b + (t + 1) * s + i by (clear this; lia)] at this
      exact this
/-- a greater letter behind a word said again and again -/
theorem LYN.grow (hw : LYN f b (b + s)) (hs : b + s ≤ a) (hp : ∀ i, b ≤ i → i + s < a → f (i + s) = f i) (hl : f (a - s) < f a) : LYN f b (a + 1) := by
  have h0 := hw.1
  have up : ∀ p, b + s ≤ p → p ≤ a → Lt f (a + 1) (p - s) p := fun p p1 p2 => by
    refine .of_strict (c := a - p) (by (clear hs hl h0 p1; omega)) (by lia) (fun i hi => ?_) ?_
    · have := hp (p - s + i) (by (clear hi; lia)) (by lia)
      rw [show p - s + i + s = p + i by (clear this; lia)] at this
      exact this.symm
    · rw [show p - s + (a - p) = a - s by lia, show p + (a - p) = a by lia]; exact hl
  refine ⟨by (clear h0; lia), ?_⟩
  intro p
  induction p using Nat.strongRecOn with
  | _ p ih =>
    intro p1 p2
    by_cases c1 : p < b + s
    · exact (hw.2 p p1 c1).mono (by lia) (by lia)
    · have := up p (by lia) (by lia)
      by_cases c2 : p - s = b
      · rw [c2] at this; exact this
      · exact (ih (p - s) (by (clear hs hl c1; omega)) (by (clear ih; lia)) (by (clear hl h0; omega))).trans this
theorem LYN.isN (hw : LYN f b (b + s)) (hs : b + s ≤ a) (hn : a ≤ n) (hp : ∀ i, b ≤ i → i + s < a → f (i + s) = f i) (hl : a = n ∨ (a < n ∧ f a < f (a - s))) : IsN f n b (b + s) := by
  refine ⟨hw.1, by lia, fun p p1 p2 => (hw.2 p p1 p2).mono (by lia) (by lia), ?_⟩
  by_cases x : b + s = n
  · exact .inl x
  · right
    have h0 := hw.1
    refine ⟨a - (b + s), by lia, fun i hi => ?_, ?_⟩
    · have := hp (b + i) (by lia) (by (clear hs hn; omega))
      rw [show b + i + s = b + s + i by (clear this; lia)] at this
      exact this
    · rcases hl with l | ⟨l1, l2⟩
      · left; (clear hn; lia)
      · right
        rw [show b + s + (a - (b + s)) = a by (clear l2; omega), show b + (a - (b + s)) = a - s by lia]
        exact ⟨l1, l2⟩
/-- the chain of next places -/
noncomputable def CN (f : Nat → Int) (e : Nat) : List Int → Prop
  | [] => False
  | [x] => x = (e : Int)
  | x :: y :: r => (∃ a g : Nat, x = (a : Int) ∧ y = (g : Int) ∧ IsN f e a g) ∧ CN f e (y :: r)
theorem CN.unique : ∀ {l1 l2 : List Int} {x : Int}, CN f e (x :: l1) → CN f e (x :: l2) → l1 = l2
  | [], [], _, _, _ => rfl
  | [], y :: r, x, h, k => by
    obtain ⟨⟨a, g, rfl, rfl, hi⟩, _⟩ := k
    have h : (a : Int) = (e : Int) := h
    have := hi.lt; have := hi.le; lia
  | y :: r, [], x, k, h => by
    obtain ⟨⟨a, g, rfl, rfl, hi⟩, _⟩ := k
    have h : (a : Int) = (e : Int) := h
    have := hi.lt; have := hi.le; lia
  | y :: r, z :: t, x, h, k => by
    obtain ⟨⟨a, g, rfl, rfl, hi⟩, h2⟩ := h
    obtain ⟨⟨a', g', ha, rfl, hi'⟩, k2⟩ := k
    have : a = a' := by lia
    subst this
    have := hi.unique hi'
    subst this
    rw [CN.unique h2 k2]
theorem CN.rest {x : Int} {l : List Int} (h : CN f e (x :: l)) (hl : l ≠ []) : CN f e l := by
  cases l with
  | nil => exact absurd rfl hl
  | cons y r => exact h.2
theorem CN.map {F : Int → Int} (hF : ∀ a g : Nat, IsN f e a g → F a = g) : ∀ {l : List Int}, CN f e l → l.drop 1 = l.dropLast.map F
  | [], h => h.elim
  | [x], _ => rfl
  | x :: y :: r, h => by
    obtain ⟨⟨a, g, rfl, rfl, hi⟩, h2⟩ := h
    have := CN.map hF h2
    rw [List.dropLast_cons_of_ne_nil (by simp), List.map_cons, hF a g hi, ← this]; rfl
theorem CN.run (hi : ∀ t, t < m → IsN f e (b + t * s) (b + (t + 1) * s)) : ∀ (k : Nat) {l : List Int} {x : Int}, k ≤ m → x = ((b + (m - k) * s : Nat) : Int) → CN f e (x :: l) → (x :: l).take (k + 1) = (List.range (k + 1)).map fun t => ((b + (m - k + t) * s : Nat) : Int)
  | 0, l, x, hk, hx, h => by simp [hx]
  | k + 1, l, x, hk, hx, h => by
    have h1 := hi (m - (k + 1)) (by (clear hx; omega))
    have e1 : m - (k + 1) + 1 = m - k := by lia
    rw [e1] at h1
    cases l with
    | nil =>
      have h : x = (e : Int) := h
      have := h1.lt; have := h1.le; (clear hk e1; omega)
    | cons y r =>
      obtain ⟨⟨a, g, ha, rfl, hi'⟩, h2⟩ := h
      have : a = b + (m - (k + 1)) * s := by lia
      subst this
      have := h1.unique hi'
      subst this
      have ih := CN.run hi k (by lia) rfl h2
      have e2 : List.range (k + 1 + 1) = 0 :: (List.range (k + 1)).map Nat.succ := List.range_succ_eq_map
      rw [List.take_succ_cons, ih, e2, List.map_cons, List.map_map]
      congr 1
      · apply List.map_congr_left
        intro t _
        show ((b + (m - k + t) * s : Nat) : Int) = ((b + (m - (k + 1) + (t + 1)) * s : Nat) : Int)
        rw [show m - (k + 1) + (t + 1) = m - k + t by lia]
/-- the row from its end: words that do not rise -/
noncomputable def LK (f : Nat → Int) (n : Nat) : List Int → Prop
  | [] => False
  | [x] => x = 0
  | p :: m :: r => (∃ a c : Nat, m = (a : Int) ∧ p = (c : Int) ∧ LYN f a c ∧ c ≤ n) ∧ LK f n (m :: r)
noncomputable def NU (f : Nat → Int) : List Int → Prop
  | p :: m :: b :: r => ¬ UV f b.toNat m.toNat p.toNat ∧ NU f (m :: b :: r)
  | _ => True
theorem NU.rest {p m : Int} {r : List Int} (h : NU f (p :: m :: r)) : NU f (m :: r) := by
  cases r with
  | nil => trivial
  | cons b r => exact h.2
theorem CN.of_stack : ∀ {st acc : List Int} {x : Int}, LK f n (x :: st) → NU f (x :: st) → CN f e (x :: acc) → (∀ m y : Int, st.head? = some m → acc.head? = some y → ¬ UV f m.toNat x.toNat y.toNat) → e ≤ n → CN f e ((x :: st).reverse ++ acc) ∧ ((x :: st).reverse ++ acc).head? = some 0
  | [], acc, x, h, _, k, _, _ => by
    have h : x = 0 := h
    exact ⟨k, by simp [h]⟩
  | m :: r, acc, x, h, hn, k, hc, he => by
    obtain ⟨⟨a, c, rfl, rfl, hl, hcn⟩, h2⟩ := h
    have key : IsN f e a c := by
      cases acc with
      | nil =>
        have k : (c : Int) = (e : Int) := k
        have : c = e := by (clear he; lia)
        subst this
        exact .of_max hl (Nat.le_refl _) fun g' _ h => h
      | cons y t =>
        obtain ⟨⟨a', g, ha, rfl, hi⟩, k2⟩ := k
        have : c = a' := by lia
        subst this
        have u := hc a g rfl rfl
        rw [Int.toNat_natCast, Int.toNat_natCast, Int.toNat_natCast] at u
        exact (IsN.iff hl (by have := hi.lt; have := hi.le; (clear he; lia)) hi).mpr u
    have := CN.of_stack (acc := (c : Int) :: acc) h2 hn.rest (show CN f e ((a : Int) :: (c : Int) :: acc) from ⟨⟨a, c, rfl, rfl, key⟩, k⟩) (fun b y hb hy => ?_) he
    · rw [List.reverse_cons (a := (c : Int)), List.append_assoc]; exact this
    · cases r with
      | nil => cases hb
      | cons b' r' =>
        cases hb; cases hy
        exact hn.1
end
end Mine
end
section
set_option maxRecDepth 100000
set_option linter.unusedVariables false
namespace Mine
open PySem PySem.W PySem.Calls PyProof.Rows PySem.Spec
abbrev Store := Addr → Option Obj
noncomputable def Store.Le (φ ψ : Store) : Prop := ∀ b o, φ b = some o → ψ b = some o
theorem Store.Le.refl (φ : Store) : φ.Le φ := fun _ _ e => e
theorem Store.Le.trans {φ ψ χ : Store} (h : φ.Le ψ) (k : ψ.Le χ) : φ.Le χ := fun b o e => k b o (h b o e)
noncomputable def Store.put (φ : Store) (a : Addr) (o : Obj) : Store := fun b => if b = a then some o else φ b
theorem Store.le_put {φ : Store} {a : Addr} {o : Obj} (h : φ a = none) : φ.Le (φ.put a o) := fun b o' e => by
  unfold Store.put
  by_cases q : b = a
  · subst q; rw [h] at e; cases e
  · rw [if_neg q]; exact e
theorem Store.put_self (φ : Store) (a : Addr) (o : Obj) : φ.put a o a = some o := by simp [Store.put]
abbrev tupOf (vs : Array Value) (n : Nat) : Obj := { cls := .type "tuple", data := .seq vs n }
inductive D where
  | none
  | bool (b : Bool)
  | int (i : Int)
  | bytes (ns : List Int)
  | tuple (ds : List D)
  | list (ds : List D)
  | range (a b c : Int)
  | inst (C : Addr) (fs : List (Str × D))
  | box
  | self (C : Addr)
  | any
mutual
inductive Rep (φ : Store) (β : Addr) : Value → D → Prop
  | none : Rep φ β Value.none D.none
  | bool (b : Bool) : Rep φ β (Value.bool b) (D.bool b)
  | int (i : Int) (t : Tok) : Rep φ β (Value.int i t) (D.int i)
  | bytes {b : Array UInt8} {ns : List Int} (t : Tok) : KBw.bInts b = ns → Rep φ β (Value.bytes b t) (D.bytes ns)
  | tuple {a : Addr} {vs : List Value} {n : Nat} {ds : List D} : φ a = some (tupOf vs.toArray n) → Reps φ β vs ds → Rep φ β (Value.ref a) (D.tuple ds)
  | list {a : Addr} {vs : List Value} {n : Nat} {ds : List D} : φ a = some (listOf vs.toArray n) → Reps φ β vs ds → Rep φ β (Value.ref a) (D.list ds)
  | range {r : Addr} {a b c : Int} {t u v : Tok} : φ r = some { cls := .type "range", dict := .none, data := .fields #[.int a t, .int b u, .int c v], slots := #[] } → Rep φ β (Value.ref r) (D.range a b c)
  | inst {a C dx : Addr} {es : List DictEntry} {n : Nat} {fs : List (Str × D)} : φ a = some (instObj C dx) → φ dx = some (dictOf es n) → RepFs φ β es fs → Rep φ β (Value.ref a) (D.inst C fs)
  | box : Rep φ β (Value.ref β) D.box
  | self {a C : Addr} : φ a = some (instObj C β) → Rep φ β (Value.ref a) (D.self C)
  | any (v : Value) : Rep φ β v D.any
inductive Reps (φ : Store) (β : Addr) : List Value → List D → Prop
  | nil : Reps φ β [] []
  | cons {v : Value} {vs : List Value} {d : D} {ds : List D} : Rep φ β v d → Reps φ β vs ds → Reps φ β (v :: vs) (d :: ds)
inductive RepFs (φ : Store) (β : Addr) : List DictEntry → List (Str × D) → Prop
  | nil : RepFs φ β [] []
  | cons {e : DictEntry} {es : List DictEntry} {x : Str} {t : Tok} {d : D} {fs : List (Str × D)} : e.key = .str x t → Rep φ β e.val d → RepFs φ β es fs → RepFs φ β (e :: es) ((x, d) :: fs)
end
theorem Rep.mono {φ ψ : Store} {β : Addr} (hs : φ.Le ψ) {v : Value} {d : D} (h : Rep φ β v d) : Rep ψ β v d :=
  Rep.rec (motive_1 := fun v d _ => Rep ψ β v d) (motive_2 := fun vs ds _ => Reps ψ β vs ds) (motive_3 := fun es fs _ => RepFs ψ β es fs) .none (fun b => .bool b) (fun i t => .int i t) (fun t h => .bytes t h)
    (fun h _ r => .tuple (hs _ _ h) r) (fun h _ r => .list (hs _ _ h) r) (fun h => .range (hs _ _ h)) (fun h k _ r => .inst (hs _ _ h) (hs _ _ k) r) .box (fun h => .self (hs _ _ h)) (fun v => .any v) .nil (fun _ _ h r => .cons h r) .nil (fun k _ _ h r => .cons k h r) h
theorem Reps.mono {φ ψ : Store} {β : Addr} (hs : φ.Le ψ) {vs : List Value} {ds : List D} (h : Reps φ β vs ds) : Reps ψ β vs ds :=
  Reps.rec (motive_1 := fun v d _ => Rep ψ β v d) (motive_2 := fun vs ds _ => Reps ψ β vs ds) (motive_3 := fun es fs _ => RepFs ψ β es fs) .none (fun b => .bool b) (fun i t => .int i t) (fun t h => .bytes t h)
    (fun h _ r => .tuple (hs _ _ h) r) (fun h _ r => .list (hs _ _ h) r) (fun h => .range (hs _ _ h)) (fun h k _ r => .inst (hs _ _ h) (hs _ _ k) r) .box (fun h => .self (hs _ _ h)) (fun v => .any v) .nil (fun _ _ h r => .cons h r) .nil (fun k _ _ h r => .cons k h r) h
theorem RepFs.mono {φ ψ : Store} {β : Addr} (hs : φ.Le ψ) {vs : List DictEntry} {ds : List (Str × D)} (h : RepFs φ β vs ds) : RepFs ψ β vs ds :=
  RepFs.rec (motive_1 := fun v d _ => Rep ψ β v d) (motive_2 := fun vs ds _ => Reps ψ β vs ds) (motive_3 := fun es fs _ => RepFs ψ β es fs) .none (fun b => .bool b) (fun i t => .int i t) (fun t h => .bytes t h)
    (fun h _ r => .tuple (hs _ _ h) r) (fun h _ r => .list (hs _ _ h) r) (fun h => .range (hs _ _ h)) (fun h k _ r => .inst (hs _ _ h) (hs _ _ k) r) .box (fun h => .self (hs _ _ h)) (fun v => .any v) .nil (fun _ _ h r => .cons h r) .nil (fun k _ _ h r => .cons k h r) h
section
variable {φ : Store} {β : Addr} {v : Value} {d : D}
noncomputable def RepInv (φ : Store) (β : Addr) (v : Value) : D → Prop
  | .none => v = .none
  | .bool b => v = .bool b
  | .int i => ∃ t, v = .int i t
  | .bytes ns => ∃ b t, v = .bytes b t ∧ KBw.bInts b = ns
  | .tuple ds => ∃ a vs n, v = .ref a ∧ φ a = some (tupOf (List.toArray vs) n) ∧ Reps φ β vs ds
  | .list ds => ∃ a vs n, v = .ref a ∧ φ a = some (listOf (List.toArray vs) n) ∧ Reps φ β vs ds
  | .range a b c => ∃ r t u w, v = .ref r ∧ φ r = some { cls := .type "range", dict := .none, data := .fields #[.int a t, .int b u, .int c w], slots := #[] }
  | .inst C fs => ∃ a dx es n, v = .ref a ∧ φ a = some (instObj C dx) ∧ φ dx = some (dictOf es n) ∧ RepFs φ β es fs
  | .box => v = .ref β
  | .self C => ∃ a, v = .ref a ∧ φ a = some (instObj C β)
  | .any => True
theorem Rep.inv (h : Rep φ β v d) : RepInv φ β v d := by
  cases h with
  | none => exact rfl
  | bool b => exact rfl
  | int i t => exact ⟨t, rfl⟩
  | bytes t e => exact ⟨_, t, rfl, e⟩
  | tuple h1 h2 => exact ⟨_, _, _, rfl, h1, h2⟩
  | list h1 h2 => exact ⟨_, _, _, rfl, h1, h2⟩
  | range h1 => exact ⟨_, _, _, _, rfl, h1⟩
  | inst h1 h2 h3 => exact ⟨_, _, _, _, rfl, h1, h2, h3⟩
  | box => exact rfl
  | self h1 => exact ⟨_, rfl, h1⟩
  | any => exact trivial
noncomputable def RepsInv (φ : Store) (β : Addr) (vs : List Value) : List D → Prop
  | [] => vs = []
  | d :: ds => ∃ v ws, vs = v :: ws ∧ Rep φ β v d ∧ Reps φ β ws ds
theorem Reps.inv {vs : List Value} {ds : List D} (h : Reps φ β vs ds) : RepsInv φ β vs ds := by
  cases h with
  | nil => exact rfl
  | cons h1 h2 => exact ⟨_, _, rfl, h1, h2⟩
noncomputable def RepFsInv (φ : Store) (β : Addr) (es : List DictEntry) : List (Str × D) → Prop
  | [] => es = []
  | p :: fs => ∃ e es' t, es = e :: es' ∧ e.key = .str p.1 t ∧ Rep φ β e.val p.2 ∧ RepFs φ β es' fs
theorem RepFs.inv {es : List DictEntry} {fs : List (Str × D)} (h : RepFs φ β es fs) : RepFsInv φ β es fs := by
  cases h with
  | nil => exact rfl
  | cons h1 h2 h3 => exact ⟨_, _, _, rfl, h1, h2, h3⟩
theorem RepFs.nil_inv {es : List DictEntry} (h : RepFs φ β es []) : es = [] := h.inv
theorem RepFs.cons_inv {es : List DictEntry} {p : Str × D} {fs : List (Str × D)} (h : RepFs φ β es (p :: fs)) : ∃ e es' t, es = e :: es' ∧ e.key = .str p.1 t ∧ Rep φ β e.val p.2 ∧ RepFs φ β es' fs := h.inv
theorem Rep.int_inv {i : Int} (h : Rep φ β v (.int i)) : ∃ t, v = .int i t := Rep.inv h
theorem Rep.bool_inv {i : Bool} (h : Rep φ β v (.bool i)) : v = .bool i := Rep.inv h
theorem Rep.none_inv (h : Rep φ β v .none) : v = .none := Rep.inv h
theorem Rep.bytes_inv {ns : List Int} (h : Rep φ β v (.bytes ns)) : ∃ b t, v = .bytes b t ∧ KBw.bInts b = ns := Rep.inv h
theorem Rep.list_inv {ds : List D} (h : Rep φ β v (.list ds)) : ∃ a vs n, v = .ref a ∧ φ a = some (listOf (List.toArray vs) n) ∧ Reps φ β vs ds := Rep.inv h
theorem Rep.tuple_inv {ds : List D} (h : Rep φ β v (.tuple ds)) : ∃ a vs n, v = .ref a ∧ φ a = some (tupOf (List.toArray vs) n) ∧ Reps φ β vs ds := Rep.inv h
theorem Rep.range_inv {a b c : Int} (h : Rep φ β v (.range a b c)) : ∃ r t u w, v = .ref r ∧ φ r = some { cls := .type "range", dict := .none, data := .fields #[.int a t, .int b u, .int c w], slots := #[] } := Rep.inv h
theorem Rep.inst_inv {C : Addr} {fs : List (Str × D)} (h : Rep φ β v (.inst C fs)) : ∃ a dx es n, v = .ref a ∧ φ a = some (instObj C dx) ∧ φ dx = some (dictOf es n) ∧ RepFs φ β es fs := Rep.inv h
theorem Rep.box_inv (h : Rep φ β v .box) : v = .ref β := Rep.inv h
theorem Rep.self_inv {C : Addr} (h : Rep φ β v (.self C)) : ∃ a, v = .ref a ∧ φ a = some (instObj C β) := Rep.inv h
theorem Reps.nil_inv {vs : List Value} (h : Reps φ β vs []) : vs = [] := Reps.inv h
theorem Reps.cons_inv {vs : List Value} {ds : List D} (h : Reps φ β vs (d :: ds)) : ∃ v ws, vs = v :: ws ∧ Rep φ β v d ∧ Reps φ β ws ds := Reps.inv h
end
section
variable {φ : Store} {β : Addr} {v : Value} {d : D} {vs ws : List Value} {ds es : List D}
theorem Reps.length (h : Reps φ β vs ds) : vs.length = ds.length := by
  induction ds generalizing vs with
  | nil => rw [Reps.nil_inv h]; rfl
  | cons d ds ih =>
    obtain ⟨v, ws, e, _, r⟩ := Reps.cons_inv h
    rw [e]; exact congrArg (· + 1) (ih r)
theorem Reps.append (h : Reps φ β vs ds) (k : Reps φ β ws es) : Reps φ β (vs ++ ws) (ds ++ es) := by
  induction ds generalizing vs with
  | nil => rw [Reps.nil_inv h]; exact k
  | cons d ds ih =>
    obtain ⟨v, us, e, q, r⟩ := Reps.cons_inv h
    rw [e]; exact .cons q (ih r)
theorem Reps.one (h : Rep φ β v d) : Reps φ β [v] [d] := .cons h .nil
theorem Reps.get (h : Reps φ β vs ds) {k : Nat} {d : D} (hk : ds[k]? = some d) : ∃ v, vs[k]? = some v ∧ Rep φ β v d := by
  induction ds generalizing vs k with
  | nil => cases hk
  | cons d0 ds ih =>
    obtain ⟨v, us, e, q, r⟩ := Reps.cons_inv h
    rw [e]
    cases k with
    | zero => exact ⟨v, rfl, Option.some.inj hk ▸ q⟩
    | succ k => exact ih r hk
theorem Reps.set (h : Reps φ β vs ds) {k : Nat} (hv : Rep φ β v d) : Reps φ β (vs.set k v) (ds.set k d) := by
  induction ds generalizing vs k with
  | nil => rw [Reps.nil_inv h]; exact .nil
  | cons d0 ds ih =>
    obtain ⟨u, us, e, q, r⟩ := Reps.cons_inv h
    rw [e]
    cases k with
    | zero => exact .cons hv r
    | succ k => exact .cons q (ih r)
theorem Reps.drop (h : Reps φ β vs ds) (k : Nat) : Reps φ β (vs.drop k) (ds.drop k) := by
  induction k generalizing vs ds with
  | zero => exact h
  | succ k ih =>
    cases ds with
    | nil => rw [Reps.nil_inv h]; exact .nil
    | cons d ds =>
      obtain ⟨u, us, e, q, r⟩ := Reps.cons_inv h
      rw [e]; exact ih r
theorem Reps.take (h : Reps φ β vs ds) (k : Nat) : Reps φ β (vs.take k) (ds.take k) := by
  induction k generalizing vs ds with
  | zero => exact .nil
  | succ k ih =>
    cases ds with
    | nil => rw [Reps.nil_inv h]; exact .nil
    | cons d ds =>
      obtain ⟨u, us, e, q, r⟩ := Reps.cons_inv h
      rw [e]; exact .cons q (ih r)
theorem Reps.snoc (h : Reps φ β vs ds) (k : Rep φ β v d) : Reps φ β (vs ++ [v]) (ds ++ [d]) := h.append (.one k)
end
/-- what the one shared thing holds: a list of two ints, or an object's fields -/
inductive BX where
  | two (a b : Int)
  | flds (fs : List (Str × D))
abbrev BS := Option BX
noncomputable def BoxIs (h : Heap) (φ : Store) (β : Addr) : BX → Prop
  | .two a b => ∃ u v n, h.get? β = some (listOf #[.int a u, .int b v] n)
  | .flds fs => ∃ es n, h.get? β = some (dictOf es n) ∧ RepFs φ β es fs
theorem BoxIs.obj {h : Heap} {φ : Store} {β : Addr} {p : BX} (x : BoxIs h φ β p) : ∃ o, h.get? β = some o := by
  cases p with
  | two a b => obtain ⟨u, v, n, e⟩ := x; exact ⟨_, e⟩
  | flds fs => obtain ⟨es, n, e, _⟩ := x; exact ⟨_, e⟩
theorem BoxIs.keep {h h' : Heap} {φ φ' : Store} {β : Addr} {p : BX} (x : BoxIs h φ β p) (hk : ∀ o, h.get? β = some o → h'.get? β = some o) (le : φ.Le φ') : BoxIs h' φ' β p := by
  cases p with
  | two a b => obtain ⟨u, v, n, e⟩ := x; exact ⟨u, v, n, hk _ e⟩
  | flds fs => obtain ⟨es, n, e, r⟩ := x; exact ⟨es, n, hk _ e, r.mono le⟩
structure Cx where
  prog : Program
  w : World
  S0 : Shared
  H : Heap
  mg : Str → Option Value
  mb : Str → Option Value
  β : Addr
abbrev Cx.M (C : Cx) : Model := model C.prog C.w
noncomputable abbrev Cx.K (C : Cx) : Frag := KP C.w.params
structure Cx.Ok (C : Cx) : Prop where
  g : C.H.Ns mainGlobals C.mg
  b : C.H.Ns builtinsNs C.mb
  builtins : ∀ x : Str, x ≠ "__name__" → C.mb x = bootBuiltins x
  nolimit : C.H.NoLimit
  kin : C.K.In C.H
structure GSt (C : Cx) (Ψ φ : Store) (bs : BS) (s : Shared) : Prop where
  base : ∀ b o, C.H.get? b = some o → φ b = some o
  fro : ∀ b o, φ b = some o → s.heap.get? b = some o
  pro : ∀ b o, Ψ b = some o → s.heap.get? b = some o
  sep : ∀ b o, φ b = some o → Ψ b = none
  bex : ∃ o, s.heap.get? C.β = some o
  box : ∀ p, bs = some p → BoxIs s.heap φ C.β p ∧ φ C.β = none ∧ Ψ C.β = none
  same : ∃ h tk, s = { C.S0 with heap := h, toks := tk }
theorem GSt.keepH {C : Cx} {Ψ φ : Store} {bs : BS} {s : Shared} (G : GSt C Ψ φ bs s) : ∀ b o, C.H.get? b = some o → s.heap.get? b = some o := fun b o e => G.fro b o (G.base b o e)
theorem get?_size {h : Heap} : h.get? h.objs.size = none := by
  cases e : h.get? h.objs.size with
  | none => rfl
  | some o => exact absurd (Heap.lt_size e) (Nat.lt_irrefl _)
theorem get?_ge {h : Heap} {a : Addr} (ha : h.objs.size ≤ a) : h.get? a = none := by
  cases e : h.get? a with
  | none => rfl
  | some o => exact absurd (Heap.lt_size e) (Nat.not_lt.mpr ha)
theorem GSt.new {C : Cx} {Ψ φ : Store} {bs : BS} {s : Shared} (G : GSt C Ψ φ bs s) {a : Addr} (ha : s.heap.get? a = none) : φ a = none ∧ Ψ a = none := by
  constructor
  · cases e : φ a with
    | none => rfl
    | some o => rw [G.fro _ _ e] at ha; cases ha
  · cases e : Ψ a with
    | none => rfl
    | some o => rw [G.pro _ _ e] at ha; cases ha
theorem same_step {S0 : Shared} {s : Shared} {h : Heap} {tk : Nat} (x : ∃ h tk, s = { S0 with heap := h, toks := tk }) : ∃ h' tk', ({ s with heap := h, toks := tk } : Shared) = { S0 with heap := h', toks := tk' } := by
  obtain ⟨h0, t0, rfl⟩ := x
  exact ⟨h, tk, rfl⟩
theorem GSt.grow {C : Cx} {Ψ φ : Store} {bs : BS} {s : Shared} (G : GSt C Ψ φ bs s) {h : Heap} {tk : Nat} (hk : ∀ b o, s.heap.get? b = some o → h.get? b = some o) : GSt C Ψ φ bs { s with heap := h, toks := tk } where
  base := G.base
  fro := fun b o e => hk b o (G.fro b o e)
  pro := fun b o e => hk b o (G.pro b o e)
  sep := G.sep
  bex := let ⟨o, e⟩ := G.bex; ⟨o, hk _ _ e⟩
  box := fun p e => by
    obtain ⟨h1, h2⟩ := G.box p e
    exact ⟨h1.keep (fun o e => hk _ _ e) (Store.Le.refl φ), h2⟩
  same := same_step G.same
/-- one object of the call's own is changed -/
theorem GSt.upd {C : Cx} {Ψ φ : Store} {bs : BS} {s : Shared} (G : GSt C Ψ φ bs s) {h : Heap} {tk : Nat} {a : Addr} (hk : ∀ b o, b ≠ a → s.heap.get? b = some o → h.get? b = some o)
    (hφ : φ a = none) (hΨ : Ψ a = none) (hb : a ≠ C.β) : GSt C Ψ φ bs { s with heap := h, toks := tk } where
  base := G.base
  fro := fun b o e => hk b o (fun q => by rw [q, hφ] at e; cases e) (G.fro b o e)
  pro := fun b o e => hk b o (fun q => by rw [q, hΨ] at e; cases e) (G.pro b o e)
  sep := G.sep
  bex := let ⟨o, e⟩ := G.bex; ⟨o, hk _ _ (Ne.symm hb) e⟩
  box := fun p e => by
    obtain ⟨h1, h2⟩ := G.box p e
    exact ⟨h1.keep (fun o e => hk _ _ (Ne.symm hb) e) (Store.Le.refl φ), h2⟩
  same := same_step G.same
theorem GSt.freeze {C : Cx} {Ψ φ : Store} {bs : BS} {s : Shared} (G : GSt C Ψ φ bs s) {a : Addr} {o : Obj} (ha : s.heap.get? a = some o) (hφ : φ a = none) (hΨ : Ψ a = none) (hb : a ≠ C.β) : GSt C Ψ (φ.put a o) bs s where
  base := fun b o' e => Store.le_put hφ b o' (G.base b o' e)
  fro := fun b o' e => by
    unfold Store.put at e
    by_cases q : b = a
    · subst q; rw [if_pos rfl] at e; cases e; exact ha
    · rw [if_neg q] at e; exact G.fro b o' e
  pro := G.pro
  sep := fun b o' e => by
    unfold Store.put at e
    by_cases q : b = a
    · subst q; exact hΨ
    · rw [if_neg q] at e; exact G.sep b o' e
  bex := G.bex
  box := fun p e => by
    obtain ⟨h1, h2, h3⟩ := G.box p e
    refine ⟨h1.keep (fun o e => e) (Store.le_put hφ), ?_, h3⟩
    unfold Store.put
    rw [if_neg (Ne.symm hb)]; exact h2
  same := G.same
inductive Slot where
  | val (d : D)
  | mu (ds : List D)
abbrev Vars := List (Str × Slot)
structure Fm where
  sc : Scope
  ow : List Str
  n : Nat
structure FSt (C : Cx) (F : Fm) (env : Env) (Ψ φ : Store) (ρ : Str → Option Value) (vars : Vars) (s : Shared) : Prop where
  sc : env.scope = F.sc
  kind : F.sc.kind = .function
  glob : env.globals = mainGlobals
  blt : env.builtins = builtinsNs
  ns : ∃ m, s.heap.Ns env.locals m ∧ ∀ x v, ρ x = some v → F.sc.names.lookup x = some .local → m x = some v
  loc : φ env.locals = none ∧ Ψ env.locals = none ∧ env.locals ≠ C.β
  cell : ∀ x v, ρ x = some v → F.sc.names.lookup x = some .cell ∨ F.sc.names.lookup x = some .free → ∃ c, env.cells.lookup x = some c ∧ s.heap.IsCell c (some v)
  own : ∀ x ∈ F.ow, ∃ c v, env.cells.lookup x = some c ∧ s.heap.IsCell c v ∧ φ c = none ∧ Ψ c = none ∧ c ≠ C.β ∧ ∀ y, y ≠ x → env.cells.lookup y ≠ some c
  fr : ∀ x c, env.cells.lookup x = some c → x ∉ F.ow → ∃ o, Ψ c = some o
  val : ∀ x d, vars.lookup x = some (.val d) → ∃ v, ρ x = some v ∧ Rep φ C.β v d
  mu : ∀ x ds, vars.lookup x = some (.mu ds) → ∃ a vs n, ρ x = some (.ref a) ∧ s.heap.get? a = some (listOf vs n) ∧ Reps φ C.β vs.toList ds ∧ φ a = none ∧ Ψ a = none ∧ a ≠ C.β
  dis : ∀ x y ds es, vars.lookup x = some (.mu ds) → vars.lookup y = some (.mu es) → x ≠ y → ρ x ≠ ρ y
structure St (C : Cx) (F : Fm) (env : Env) (Ψ φ : Store) (ρ : Str → Option Value) (vars : Vars) (bs : BS) (s : Shared) : Prop where
  G : GSt C Ψ φ bs s
  F : FSt C F env Ψ φ ρ vars s
theorem FSt.grow {C : Cx} {F : Fm} {env : Env} {Ψ φ φ' : Store} {ρ : Str → Option Value} {vars : Vars} {s : Shared} (X : FSt C F env Ψ φ ρ vars s) {h : Heap} {tk : Nat}
    (hk : ∀ b o, s.heap.get? b = some o → h.get? b = some o) (hφ : φ.Le φ') (hnew : ∀ b, φ b = none → φ' b ≠ none → s.heap.get? b = none) : FSt C F env Ψ φ' ρ vars { s with heap := h, toks := tk } := by
  have new : ∀ b o, s.heap.get? b = some o → φ b = none → φ' b = none := fun b o e q => by
    cases e' : φ' b with
    | none => rfl
    | some o' => rw [hnew b q (by rw [e']; exact fun z => by cases z)] at e; cases e
  refine ⟨X.sc, X.kind, X.glob, X.blt, ?_, ?_, ?_, ?_, X.fr, ?_, ?_, X.dis⟩
  · obtain ⟨m, h1, h2⟩ := X.ns
    exact ⟨m, h1.keeps hk, h2⟩
  · obtain ⟨m, ⟨o, _, _, h1, _⟩, _⟩ := X.ns
    exact ⟨new _ _ h1 X.loc.1, X.loc.2⟩
  · intro x v e k
    obtain ⟨c, h1, h2⟩ := X.cell x v e k
    exact ⟨c, h1, h2.keeps hk⟩
  · intro x hx
    obtain ⟨c, v, h1, h2, h3, h4, h5⟩ := X.own x hx
    obtain ⟨o, ho, _⟩ := id h2
    exact ⟨c, v, h1, h2.keeps hk, new _ _ ho h3, h4, h5⟩
  · intro x d e
    obtain ⟨v, h1, h2⟩ := X.val x d e
    exact ⟨v, h1, h2.mono hφ⟩
  · intro x ds e
    obtain ⟨a, vs, n, h1, h2, h3, h4, h5, h6⟩ := X.mu x ds e
    exact ⟨a, vs, n, h1, hk _ _ h2, h3.mono hφ, new _ _ h2 h4, h5, h6⟩
inductive R where
  | val (d : D)
  | bor (x : Str) (ds : List D)
  | own (ds : List D)
/-- a new list, of nobody's yet -/
noncomputable def IsOwn (C : Cx) (Ψ φ : Store) (s : Shared) (v : Value) (ds : List D) (a : Addr) : Prop := ∃ vs n, v = .ref a ∧ s.heap.get? a = some (listOf vs n) ∧ Reps φ C.β vs.toList ds ∧ φ a = none ∧ Ψ a = none ∧ a ≠ C.β
noncomputable def RV (C : Cx) (env : Env) (Ψ φ : Store) (ρ : Str → Option Value) (vars : Vars) (s : Shared) (v : Value) : R → Prop
  | .val d => Rep φ C.β v d
  | .bor x ds => ρ x = some v ∧ vars.lookup x = some (.mu ds)
  | .own ds => ∃ a, IsOwn C Ψ φ s v ds a ∧ (∀ x es, vars.lookup x = some (.mu es) → ρ x ≠ some v)
noncomputable def AOk (n : Nat) (A : Around) : Prop := A.handled = none ∧ A.depth + 3 * n + 5 < recursionLimit ∧ A.units + 40 * n + 150 < cLine
theorem AOk.deeper {n : Nat} {A : Around} {env : Env} (h : AOk (n + 1) A) : AOk n (A.deeper env) := ⟨h.1, by have := h.2.1; show A.depth + 1 + _ + _ < _; lia, by have := h.2.2; show A.units + 3 + _ + _ < _; lia⟩
theorem AOk.le {n k : Nat} {A : Around} (h : AOk n A) (hk : k ≤ n) : AOk k A := ⟨h.1, by have := h.2.1; lia, by have := h.2.2; lia⟩
theorem AOk.room {n : Nat} {A : Around} (h : AOk n A) : A.depth < recursionLimit := by have := h.2.1; lia
theorem AOk.units {n : Nat} {A : Around} (h : AOk n A) : A.units + 100 < cLine := by have := h.2.2; lia
/-- how an expression ends -/
inductive EvR (C : Cx) (F : Fm) (env : Env) (Ψ φ : Store) (ρ : Str → Option Value) (vars : Vars) (Q : BS → R → Prop) (v : Value) (s' : Shared) : Prop
  | intro (φ' : Store) (bs' : BS) (r : R) (le : φ.Le φ') (X : St C F env Ψ φ' ρ vars bs' s') (h : RV C env Ψ φ' ρ vars s' v r) (q : Q bs' r)
theorem EvR.le {C : Cx} {F : Fm} {env : Env} {Ψ φ φ1 : Store} {ρ : Str → Option Value} {vars : Vars} {Q : BS → R → Prop} {v : Value} {s' : Shared} (le : φ.Le φ1) : EvR C F env Ψ φ1 ρ vars Q v s' → EvR C F env Ψ φ ρ vars Q v s'
  | ⟨φ', b, r, l, X, h, q⟩ => ⟨φ', b, r, le.trans l, X, h, q⟩
theorem EvR.mono {C : Cx} {F : Fm} {env : Env} {Ψ φ : Store} {ρ : Str → Option Value} {vars : Vars} {Q Q' : BS → R → Prop} {v : Value} {s' : Shared} (hq : ∀ b r, Q b r → Q' b r) : EvR C F env Ψ φ ρ vars Q v s' → EvR C F env Ψ φ ρ vars Q' v s'
  | ⟨φ', b, r, l, X, h, q⟩ => ⟨φ', b, r, l, X, h, hq _ _ q⟩
/-- how a test ends -/
inductive TsR (C : Cx) (F : Fm) (env : Env) (Ψ φ : Store) (ρ : Str → Option Value) (vars : Vars) (Q : BS → Bool → Prop) (b : Bool) (s' : Shared) : Prop
  | intro (φ' : Store) (bs' : BS) (le : φ.Le φ') (X : St C F env Ψ φ' ρ vars bs' s') (q : Q bs' b)
theorem TsR.le {C : Cx} {F : Fm} {env : Env} {Ψ φ φ1 : Store} {ρ : Str → Option Value} {vars : Vars} {Q : BS → Bool → Prop} {b : Bool} {s' : Shared} (le : φ.Le φ1) : TsR C F env Ψ φ1 ρ vars Q b s' → TsR C F env Ψ φ ρ vars Q b s'
  | ⟨φ', b, l, X, q⟩ => ⟨φ', b, le.trans l, X, q⟩
theorem TsR.mono {C : Cx} {F : Fm} {env : Env} {Ψ φ : Store} {ρ : Str → Option Value} {vars : Vars} {Q Q' : BS → Bool → Prop} {b : Bool} {s' : Shared} (hq : ∀ b r, Q b r → Q' b r) : TsR C F env Ψ φ ρ vars Q b s' → TsR C F env Ψ φ ρ vars Q' b s'
  | ⟨φ', b, l, X, q⟩ => ⟨φ', b, l, X, hq _ _ q⟩
structure Ev (C : Cx) (F : Fm) (vars : Vars) (bs : BS) (e : Expr) (Q : BS → R → Prop) : Prop where
  run : ∀ A env Ψ φ ρ s, AOk F.n A → St C F env Ψ φ ρ vars bs s → wpAny C.M A (eval e env) (EvR C F env Ψ φ ρ vars Q) (fun _ _ => False) s
structure Ts (C : Cx) (F : Fm) (vars : Vars) (bs : BS) (e : Expr) (Q : BS → Bool → Prop) : Prop where
  run : ∀ A env Ψ φ ρ s, AOk F.n A → St C F env Ψ φ ρ vars bs s → wpAny C.M A (isTrue e env (eval e env)) (TsR C F env Ψ φ ρ vars Q) (fun _ _ => False) s
inductive Fl where
  | next | brk | cont
  | ret (r : R)
noncomputable def FV (C : Cx) (env : Env) (Ψ φ : Store) (ρ : Str → Option Value) (vars : Vars) (s : Shared) : Flow → Fl → Prop
  | .next, .next => True
  | .brk, .brk => True
  | .cont, .cont => True
  | .ret v, .ret r => RV C env Ψ φ ρ vars s v r
  | _, _ => False
/-- how statements end -/
inductive ExR (C : Cx) (F : Fm) (env : Env) (Ψ φ : Store) (Q : Vars → BS → Fl → Prop) (f : Flow) (s' : Shared) : Prop
  | intro (φ' : Store) (ρ' : Str → Option Value) (vars' : Vars) (bs' : BS) (fl : Fl) (le : φ.Le φ') (X : St C F env Ψ φ' ρ' vars' bs' s') (h : FV C env Ψ φ' ρ' vars' s' f fl) (q : Q vars' bs' fl)
theorem ExR.le {C : Cx} {F : Fm} {env : Env} {Ψ φ φ1 : Store} {Q : Vars → BS → Fl → Prop} {f : Flow} {s' : Shared} (le : φ.Le φ1) : ExR C F env Ψ φ1 Q f s' → ExR C F env Ψ φ Q f s'
  | ⟨φ', ρ, v, b, fl, l, X, h, q⟩ => ⟨φ', ρ, v, b, fl, le.trans l, X, h, q⟩
structure Ex (C : Cx) (F : Fm) (vars : Vars) (bs : BS) (ss : List Stmt) (Q : Vars → BS → Fl → Prop) : Prop where
  run : ∀ A env Ψ φ ρ s, AOk F.n A → St C F env Ψ φ ρ vars bs s → wpAny C.M A (execs ss env) (ExR C F env Ψ φ Q) (fun _ _ => False) s
structure Ex1 (C : Cx) (F : Fm) (vars : Vars) (bs : BS) (st : Stmt) (Q : Vars → BS → Fl → Prop) : Prop where
  run : ∀ A env Ψ φ ρ s, AOk F.n A → St C F env Ψ φ ρ vars bs s → wpAny C.M A (exec st env) (ExR C F env Ψ φ Q) (fun _ _ => False) s
/-- a result handed out of a frame -/
noncomputable def OV (C : Cx) (Ψ φ : Store) (s : Shared) (v : Value) : R → Prop
  | .val d => Rep φ C.β v d
  | .own ds => ∃ a, IsOwn C Ψ φ s v ds a
  | .bor _ _ => False
/-- a call's end: it hands back a value -/
noncomputable def RetR (P : Value → Shared → Prop) : Result → Shared → Prop := fun r s' => match r with
  | .ok (.ret v) => P v s'
  | .ok _ => False
  | .error _ => False
/-- how a call ends -/
inductive FnR (C : Cx) (Ψ φ : Store) (Q : BS → R → Prop) (v : Value) (s' : Shared) : Prop
  | intro (φ' : Store) (bs' : BS) (r : R) (le : φ.Le φ') (G : GSt C Ψ φ' bs' s') (h : OV C Ψ φ' s' v r) (q : Q bs' r)
structure Fn (C : Cx) (n : Nat) (f : Value) (ds : List D) (bs : BS) (Q : BS → R → Prop) : Prop where
  run : ∀ A Ψ φ s vs, AOk n A → GSt C Ψ φ bs s → Reps φ C.β vs ds → codeAny C.M A (.call f ⟨vs, []⟩) (RetR (FnR C Ψ φ Q)) s
theorem wpAny_ofRet {M : Model} {A : Around} {f : Value} {vs : List Value} {P : Value → Shared → Prop} {s : Shared} (h : codeAny M A (.call f ⟨vs, []⟩) (RetR P) s) : wpAny M A (call f vs []) P (fun _ _ => False) s :=
  wpAny_call (codeAny_mono h fun r s x => by rcases r with e | (v | _ | _ | _) <;> first | exact x.elim | exact x)
theorem St.grow {C : Cx} {F : Fm} {env : Env} {Ψ φ : Store} {ρ : Str → Option Value} {vars : Vars} {bs : BS} {s : Shared} (X : St C F env Ψ φ ρ vars bs s) {h : Heap} {tk : Nat}
    (hk : ∀ b o, s.heap.get? b = some o → h.get? b = some o) : St C F env Ψ φ ρ vars bs { s with heap := h, toks := tk } :=
  ⟨X.G.grow hk, X.F.grow hk (Store.Le.refl φ) fun b e q => absurd e q⟩
theorem St.tick {C : Cx} {F : Fm} {env : Env} {Ψ φ : Store} {ρ : Str → Option Value} {vars : Vars} {bs : BS} {s : Shared} (X : St C F env Ψ φ ρ vars bs s) {tk : Nat} : St C F env Ψ φ ρ vars bs { s with toks := tk } := X.grow (h := s.heap) fun _ _ e => e
/-- an object that is nobody's is frozen -/
theorem St.freeze {C : Cx} {F : Fm} {env : Env} {Ψ φ : Store} {ρ : Str → Option Value} {vars : Vars} {bs : BS} {s : Shared} (X : St C F env Ψ φ ρ vars bs s) {a : Addr} {o : Obj} (ha : s.heap.get? a = some o) (hφ : φ a = none) (hΨ : Ψ a = none) (hb : a ≠ C.β)
    (hl : a ≠ env.locals) (hc : ∀ x ∈ F.ow, env.cells.lookup x ≠ some a) (hm : ∀ x es, vars.lookup x = some (.mu es) → ρ x ≠ some (.ref a)) : St C F env Ψ (φ.put a o) ρ vars bs s := by
  have le : φ.Le (φ.put a o) := Store.le_put hφ
  have ne : ∀ b, b ≠ a → φ.put a o b = φ b := fun b q => by unfold Store.put; rw [if_neg q]
  refine ⟨X.G.freeze ha hφ hΨ hb, ⟨X.F.sc, X.F.kind, X.F.glob, X.F.blt, X.F.ns, ?_, X.F.cell, ?_, X.F.fr, ?_, ?_, X.F.dis⟩⟩
  · rw [ne _ (Ne.symm hl)]; exact X.F.loc
  · intro x hx
    obtain ⟨c, v, h1, h2, h3, h4, h5⟩ := X.F.own x hx
    exact ⟨c, v, h1, h2, by rw [ne _ (fun q => hc x hx (q ▸ h1))]; exact h3, h4, h5⟩
  · intro x d e
    obtain ⟨v, h1, h2⟩ := X.F.val x d e
    exact ⟨v, h1, h2.mono le⟩
  · intro x ds e
    obtain ⟨b, vs, n, h1, h2, h3, h4, h5, h6⟩ := X.F.mu x ds e
    exact ⟨b, vs, n, h1, h2, h3.mono le, by rw [ne _ (fun q => hm x ds e (q ▸ h1))]; exact h4, h5, h6⟩
theorem St.ne_loc {C : Cx} {F : Fm} {env : Env} {Ψ φ : Store} {ρ : Str → Option Value} {vars : Vars} {bs : BS} {s : Shared} (X : St C F env Ψ φ ρ vars bs s) {a : Addr} {vs : Array Value} {T : String} {n : Nat} (ha : s.heap.get? a = some { cls := .type T, data := .seq vs n }) : a ≠ env.locals := by
  rintro rfl
  obtain ⟨m, ⟨o, es, ep, h1, h2, _⟩, _⟩ := X.F.ns
  rw [ha] at h1; cases h1; cases h2
theorem St.ne_cell {C : Cx} {F : Fm} {env : Env} {Ψ φ : Store} {ρ : Str → Option Value} {vars : Vars} {bs : BS} {s : Shared} (X : St C F env Ψ φ ρ vars bs s) {a : Addr} {vs : Array Value} {T : String} {n : Nat} (ha : s.heap.get? a = some { cls := .type T, data := .seq vs n }) :
    ∀ x ∈ F.ow, env.cells.lookup x ≠ some a := by
  intro x hx e
  obtain ⟨c, v, h1, ⟨o, h2, h3⟩, _⟩ := X.F.own x hx
  rw [h1] at e; cases e
  rw [ha] at h2; cases h2; cases h3
theorem St.bne {C : Cx} {F : Fm} {env : Env} {Ψ φ : Store} {ρ : Str → Option Value} {vars : Vars} {bs : BS} {s : Shared} (X : St C F env Ψ φ ρ vars bs s) {a : Addr} (ha : s.heap.get? a = none) : a ≠ C.β := by
  rintro rfl
  obtain ⟨o, e⟩ := X.G.bex
  rw [ha] at e; cases e
/-- a new seq object, owned -/
theorem St.newOwn {C : Cx} {F : Fm} {env : Env} {Ψ φ : Store} {ρ : Str → Option Value} {vars : Vars} {bs : BS} {s : Shared} (X : St C F env Ψ φ ρ vars bs s) {a : Addr} {h : Heap} {tk : Nat} {vs : Array Value} {n : Nat} {ds : List D}
    (hk : ∀ b o, s.heap.get? b = some o → h.get? b = some o) (hn : s.heap.get? a = none) (ha : h.get? a = some (listOf vs n)) (hr : Reps φ C.β vs.toList ds) :
    St C F env Ψ φ ρ vars bs { s with heap := h, toks := tk } ∧ RV C env Ψ φ ρ vars { s with heap := h, toks := tk } (.ref a) (.own ds) := by
  refine ⟨X.grow hk, a, ⟨vs, n, rfl, ha, hr, (X.G.new hn).1, (X.G.new hn).2, X.bne hn⟩, ?_⟩
  intro x es e q
  obtain ⟨b, vs', n', h1, h2, _⟩ := X.F.mu x es e
  rw [h1] at q; cases q
  rw [hn] at h2; cases h2
noncomputable def R.norm : R → R
  | .own ds => .val (.list ds)
  | r => r
noncomputable def R.items : R → Option (List D)
  | .val (.list ds) => some ds
  | .bor _ ds => some ds
  | .own ds => some ds
  | _ => none
theorem norm_step {C : Cx} {F : Fm} {env : Env} {Ψ φ : Store} {ρ : Str → Option Value} {vars : Vars} {bs : BS} {s : Shared} (X : St C F env Ψ φ ρ vars bs s) {v : Value} {r : R} (hr : RV C env Ψ φ ρ vars s v r) :
    ∃ φ', φ.Le φ' ∧ St C F env Ψ φ' ρ vars bs s ∧ RV C env Ψ φ' ρ vars s v r.norm := by
  cases r with
  | val d => exact ⟨φ, Store.Le.refl φ, X, hr⟩
  | bor x ds => exact ⟨φ, Store.Le.refl φ, X, hr⟩
  | own ds =>
    obtain ⟨a, ⟨vs, n, rfl, h1, h2, h3, h4, h5⟩, h6⟩ := hr
    obtain ⟨vs⟩ := vs
    exact ⟨φ.put a _, Store.le_put h3, X.freeze h1 h3 h4 h5 (X.ne_loc h1) (X.ne_cell h1) h6, .list (Store.put_self ..) (h2.mono (Store.le_put h3))⟩
theorem RV.carry {C : Cx} {env : Env} {Ψ φ φ' : Store} {ρ : Str → Option Value} {vars : Vars} {s s' : Shared} {v : Value} {r : R} (h : RV C env Ψ φ ρ vars s v r.norm) (le : φ.Le φ') : RV C env Ψ φ' ρ vars s' v r.norm := by
  cases r with
  | val d => exact Rep.mono le h
  | bor x ds => exact h
  | own ds => exact Rep.mono le h
/-- the list that a result stands for -/
theorem items_inv {r : R} {ds : List D} (h : r.items = some ds) : r = .val (.list ds) ∨ (∃ x, r = .bor x ds) ∨ r = .own ds := by
  unfold R.items at h
  split at h
  · cases h; exact .inl rfl
  · cases h; exact .inr (.inl ⟨_, rfl⟩)
  · cases h; exact .inr (.inr rfl)
  · cases h
theorem RV.view {C : Cx} {F : Fm} {env : Env} {Ψ φ : Store} {ρ : Str → Option Value} {vars : Vars} {bs : BS} {s : Shared} (X : St C F env Ψ φ ρ vars bs s) {v : Value} {r : R} {ds : List D} (hr : RV C env Ψ φ ρ vars s v r) (hi : r.items = some ds) :
    ∃ a vs n, v = .ref a ∧ s.heap.get? a = some (listOf vs n) ∧ Reps φ C.β vs.toList ds := by
  rcases items_inv hi with rfl | ⟨x, rfl⟩ | rfl
  · obtain ⟨a, vs, n, rfl, h1, h2⟩ := Rep.list_inv hr
    exact ⟨_, _, _, rfl, X.G.fro _ _ h1, h2⟩
  · obtain ⟨h1, h2⟩ := hr
    obtain ⟨a, vs, n, h3, h4, h5, _⟩ := X.F.mu _ _ h2
    rw [h3] at h1; cases h1
    exact ⟨a, vs, n, rfl, h4, h5⟩
  · obtain ⟨a, ⟨vs, n, h1, h2, h3, _⟩, _⟩ := hr
    exact ⟨a, vs, n, h1, h2, h3⟩
end Mine
end
section
set_option maxRecDepth 100000
set_option linter.unusedVariables false
namespace Mine
open PySem PySem.W PySem.Calls PyProof.Rows PySem.Spec
noncomputable def isVar (sc : Scope) (x : Str) : Bool := !(x == ("__debug__" : Str)) && !(x == ("__classdict__" : Str)) && (match sc.names.lookup x with
  | some .local => true
  | some .cell => true
  | some .free => true
  | _ => false)
noncomputable def isLoc (F : Fm) (x : Str) : Bool := match F.sc.names.lookup x with
  | some .local => true
  | some .cell => F.ow.contains x
  | _ => false
section
variable {C : Cx} {F : Fm} {vars : Vars} {bs : BS} {Q : BS → R → Prop}
/-- how an operation ends -/
inductive OpR (C : Cx) (F : Fm) (env : Env) (Ψ φ : Store) (ρ : Str → Option Value) (vars : Vars) (bs : BS) (k : R → Prop) (v : Value) (s' : Shared) : Prop
  | intro (φ' : Store) (r : R) (le : φ.Le φ') (X : St C F env Ψ φ' ρ vars bs s') (h : RV C env Ψ φ' ρ vars s' v r) (q : k r)
structure Op2 (C : Cx) (t : Value → Value → Sem Value) (r1 r2 : R) (k : R → Prop) : Prop where
  run : ∀ n F A env Ψ φ ρ vars bs s v1 v2, AOk n A → St C F env Ψ φ ρ vars bs s → RV C env Ψ φ ρ vars s v1 r1 → RV C env Ψ φ ρ vars s v2 r2 →
    wpAny C.M A (t v1 v2) (OpR C F env Ψ φ ρ vars bs k) (fun _ _ => False) s
structure Op1 (C : Cx) (t : Value → Sem Value) (r1 : R) (k : R → Prop) : Prop where
  run : ∀ n F A env Ψ φ ρ vars bs s v1, AOk n A → St C F env Ψ φ ρ vars bs s → RV C env Ψ φ ρ vars s v1 r1 →
    wpAny C.M A (t v1) (OpR C F env Ψ φ ρ vars bs k) (fun _ _ => False) s
theorem wpM {α : Type} {M : Model} {A : Around} {t : Sem α} {Q R : α → Shared → Prop} {s : Shared} (h : wpAny M A t Q (fun _ _ => False) s) (k : ∀ v s', Q v s' → R v s') : wpAny M A t R (fun _ _ => False) s := wpAny_mono h k fun _ _ x => x
theorem Ev.mono {e : Expr} {Q' : BS → R → Prop} (h : Ev C F vars bs e Q) (hq : ∀ b r, Q b r → Q' b r) : Ev C F vars bs e Q' := ⟨fun A env Ψ φ ρ s hA X => wpM (h.run A env Ψ φ ρ s hA X) fun _ _ => EvR.mono hq⟩
theorem Ts.mono {e : Expr} {Q Q' : BS → Bool → Prop} (h : Ts C F vars bs e Q) (hq : ∀ b r, Q b r → Q' b r) : Ts C F vars bs e Q' := ⟨fun A env Ψ φ ρ s hA X => wpM (h.run A env Ψ φ ρ s hA X) fun _ _ => TsR.mono hq⟩
theorem OpR.ev {env : Env} {Ψ φ φ1 : Store} {ρ : Str → Option Value} {k : R → Prop} {v : Value} {s' : Shared} (le : φ.Le φ1) (hq : ∀ r, k r → Q bs r) : OpR C F env Ψ φ1 ρ vars bs k v s' → EvR C F env Ψ φ ρ vars Q v s'
  | ⟨φ', r, l, X, h, q⟩ => ⟨φ', bs, r, le.trans l, X, h, hq _ q⟩
inductive TwoR (C : Cx) (F : Fm) (env : Env) (Ψ φ : Store) (ρ : Str → Option Value) (vars : Vars) (K : BS → R → R → Prop) (a b : Value) (s' : Shared) : Prop
  | intro (φ' : Store) (bs' : BS) (r1 r2 : R) (le : φ.Le φ') (X : St C F env Ψ φ' ρ vars bs' s') (h1 : RV C env Ψ φ' ρ vars s' a r1) (h2 : RV C env Ψ φ' ρ vars s' b r2) (q : K bs' r1 r2)
inductive OneR (C : Cx) (F : Fm) (env : Env) (Ψ φ : Store) (ρ : Str → Option Value) (vars : Vars) (K : BS → R → Prop) (a : Value) (s' : Shared) : Prop
  | intro (φ' : Store) (bs' : BS) (r : R) (le : φ.Le φ') (X : St C F env Ψ φ' ρ vars bs' s') (h : RV C env Ψ φ' ρ vars s' a r.norm) (q : K bs' r.norm)
theorem EvR.one {env : Env} {Ψ φ : Store} {ρ : Str → Option Value} {K : BS → R → Prop} {v : Value} {s' : Shared} : EvR C F env Ψ φ ρ vars (fun b r => K b r.norm) v s' → OneR C F env Ψ φ ρ vars K v s'
  | ⟨_, b, r, le, X, h, q⟩ => let ⟨φ', l, X', h'⟩ := norm_step X h; ⟨φ', b, r, le.trans l, X', h', q⟩
theorem one {l : Expr} {K : BS → R → Prop} (h : Ev C F vars bs l fun b1 r1 => K b1 r1.norm) {A : Around} {env : Env} {Ψ φ : Store} {ρ : Str → Option Value} {s : Shared} (hA : AOk F.n A) (X : St C F env Ψ φ ρ vars bs s) :
    wpAny C.M A (eval l env) (OneR C F env Ψ φ ρ vars K) (fun _ _ => False) s := wpM (h.run A env Ψ φ ρ s hA X) fun _ _ => EvR.one
/-- two operands, one behind the other -/
theorem two {l r : Expr} {K : BS → R → R → Prop} (h : Ev C F vars bs l fun b1 r1 => Ev C F vars b1 r fun b2 r2 => K b2 r1.norm r2.norm) {A : Around} {env : Env} {Ψ φ : Store} {ρ : Str → Option Value} {s : Shared} (hA : AOk F.n A) (X : St C F env Ψ φ ρ vars bs s) :
    wpAny C.M A (eval l env) (fun a s1 => wpAny C.M A (eval r env) (TwoR C F env Ψ φ ρ vars K a) (fun _ _ => False) s1) (fun _ _ => False) s :=
  wpM (one (K := fun b1 r1 => Ev C F vars b1 r fun b2 r2 => K b2 r1 r2.norm) h hA X) fun a s1 ⟨_, _, r1, le1, X1, h1, k1⟩ =>
    wpM (one (K := fun b2 r2 => K b2 r1.norm r2) k1 hA X1) fun b s2 ⟨φ', b2, r2, le2, X2, h2, k2⟩ => ⟨φ', b2, _, _, le1.trans le2, X2, h1.carry le2, h2, k2⟩
theorem Ev_int {i : Int} {k : Nat} {pos : Pos} (h : Q bs (.val (.int i))) : Ev C F vars bs (.Constant (.int i) k pos) Q :=
  ⟨fun _ _ _ φ _ _ _ X => wpAny_Constant_int ⟨φ, bs, .val _, Store.Le.refl φ, X.tick, Rep.int _ _, h⟩⟩
theorem Ev_bool {b : Bool} {k : Nat} {pos : Pos} (h : Q bs (.val (.bool b))) : Ev C F vars bs (.Constant (.bool b) k pos) Q :=
  ⟨fun _ _ _ φ _ _ _ X => wpAny_Constant_bool ⟨φ, bs, .val _, Store.Le.refl φ, X, Rep.bool _, h⟩⟩
/-- a name of the frame is read -/
theorem load_at {env : Env} {Ψ φ : Store} {ρ : Str → Option Value} {s : Shared} {A : Around} {x : Str} {v : Value} {P : Value → Shared → Prop} (X : St C F env Ψ φ ρ vars bs s) (hv : ρ x = some v) (h : P v s)
    (hk : isVar F.sc x = true) : wpAny C.M A (loadName env x) P (fun _ _ => False) s := by
  unfold isVar at hk
  simp only [Bool.and_eq_true, Bool.not_eq_true'] at hk
  obtain ⟨⟨hd, hc⟩, hk⟩ := hk
  have hkind : env.scope.kind = .function := by rw [X.F.sc]; exact X.F.kind
  split at hk
  · rename_i e
    obtain ⟨m, h1, h2⟩ := X.F.ns
    exact wpAny_loadName_local hkind (by show env.scope.names.lookup x = _; rw [X.F.sc]; exact e) h1 (h2 x v hv e) h
  · rename_i e
    obtain ⟨c, h1, h2⟩ := X.F.cell x v hv (.inl e)
    exact wpAny_loadName_cell hkind (by show env.scope.names.lookup x = _; rw [X.F.sc]; exact e) h1 h2 h
  · rename_i e
    obtain ⟨c, h1, h2⟩ := X.F.cell x v hv (.inr e)
    exact wpAny_loadName_free hkind (by show env.scope.names.lookup x = _; rw [X.F.sc]; exact e) h1 h2 h hc
  · cases hk
theorem name_at {env : Env} {Ψ φ : Store} {ρ : Str → Option Value} {s : Shared} {A : Around} {x : Str} {pos : Pos} {v : Value} {P : Value → Shared → Prop} (X : St C F env Ψ φ ρ vars bs s) (hv : ρ x = some v) (h : P v s)
    (hk : isVar F.sc x = true) : wpAny C.M A (eval (.Name x pos) env) P (fun _ _ => False) s :=
  wpAny_Name (load_at X hv h hk) (by unfold isVar at hk; simp only [Bool.and_eq_true, Bool.not_eq_true'] at hk; exact hk.1.1)
theorem Ev_name {x : Str} {pos : Pos} {d : D} (hv : vars.lookup x = some (.val d)) (hk : isVar F.sc x = true) (h : Q bs (.val d)) : Ev C F vars bs (.Name x pos) Q :=
  ⟨fun _ _ _ φ _ _ _ X => let ⟨_, h1, h2⟩ := X.F.val x d hv; name_at X h1 ⟨φ, bs, .val _, Store.Le.refl φ, X, h2, h⟩ hk⟩
theorem Ev_name_mu {x : Str} {pos : Pos} {ds : List D} (hv : vars.lookup x = some (.mu ds)) (hk : isVar F.sc x = true) (h : Q bs (.bor x ds)) : Ev C F vars bs (.Name x pos) Q :=
  ⟨fun _ _ _ φ _ _ _ X => let ⟨_, _, _, h1, _⟩ := X.F.mu x ds hv; name_at X h1 ⟨φ, bs, .bor _ _, Store.Le.refl φ, X, ⟨h1, hv⟩, h⟩ hk⟩
theorem Ev_bin {l r : Expr} {op : Operator} {pos : Pos} (h : Ev C F vars bs l fun b1 r1 => Ev C F vars b1 r fun b2 r2 => Op2 C (binaryOp op) r1.norm r2.norm (Q b2)) : Ev C F vars bs (.BinOp l op r pos) Q :=
  ⟨fun A env Ψ φ ρ s hA X => wpAny_BinOp (wpM (two (K := fun b2 r1 r2 => Op2 C (binaryOp op) r1 r2 (Q b2)) h hA X) fun _ _ h1 => wpM h1 fun _ _ ⟨_, _, _, _, le, X2, h1, h2, k⟩ =>
    wpM (k.run _ _ _ _ _ _ _ _ _ _ _ _ hA X2 h1 h2) fun _ _ => OpR.ev le fun _ x => x)⟩
theorem Ev_cmp {l r : Expr} {op : CmpOp} {pos : Pos} (h : Ev C F vars bs l fun b1 r1 => Ev C F vars b1 r fun b2 r2 => Op2 C (compareOp op) r1.norm r2.norm (Q b2)) (hm : behindInMarks op r = false) : Ev C F vars bs (.Compare l [op] [r] pos) Q :=
  ⟨fun A env Ψ φ ρ s hA X => wpAny_Compare1 (wpM (two (K := fun b2 r1 r2 => Op2 C (compareOp op) r1 r2 (Q b2)) h hA X) fun _ _ h1 => wpM h1 fun _ _ ⟨_, _, _, _, le, X2, h1, h2, k⟩ =>
    wpM (k.run _ _ _ _ _ _ _ _ _ _ _ _ hA X2 h1 h2) fun _ _ => OpR.ev le fun _ x => x) hm⟩
theorem Ev_un {l : Expr} {op : UnaryOp} {pos : Pos} (h : Ev C F vars bs l fun b1 r1 => Op1 C (unaryOp op) r1.norm (Q b1)) : Ev C F vars bs (.UnaryOp op l pos) Q :=
  ⟨fun A env Ψ φ ρ s hA X => wpAny_UnaryOp (wpM (one (K := fun b1 r1 => Op1 C (unaryOp op) r1 (Q b1)) h hA X) fun _ _ ⟨_, _, _, le, X2, h1, k⟩ =>
    wpM (k.run _ _ _ _ _ _ _ _ _ _ _ hA X2 h1) fun _ _ => OpR.ev le fun _ x => x)⟩
/-- a bool for a test -/
noncomputable def BoolK (k : Bool → Prop) : R → Prop
  | .val (.bool b) => k b
  | _ => False
theorem BoolK.get {k : Bool → Prop} {r : R} (h : BoolK k r) : ∃ b, r = .val (.bool b) ∧ k b := by
  unfold BoolK at h
  split at h
  · exact ⟨_, rfl, h⟩
  · exact h.elim
theorem boolK_inv {env : Env} {Ψ φ : Store} {ρ : Str → Option Value} {s : Shared} {v : Value} {r : R} {k : Bool → Prop} (h : RV C env Ψ φ ρ vars s v r) (hk : BoolK k r) : ∃ b, v = .bool b ∧ k b := by
  obtain ⟨b, rfl, hb⟩ := hk.get
  exact ⟨b, Rep.bool_inv h, hb⟩
theorem truthy_bool {A : Around} {P : Bool → Shared → Prop} {E : Value → Shared → Prop} {s : Shared} {b : Bool} (h : P b s) : wpAny C.M A (truthy (.bool b)) P E s := wpAny_truthy_bool h
theorem boolK_truthy {env : Env} {Ψ φ : Store} {ρ : Str → Option Value} {s : Shared} {A : Around} {v : Value} {r : R} {k : Bool → Prop} {P : Bool → Shared → Prop} {E : Value → Shared → Prop} (h : RV C env Ψ φ ρ vars s v r) (hk : BoolK k r)
    (hp : ∀ b, k b → P b s) : wpAny C.M A (truthy v) P E s := by
  obtain ⟨b, rfl, hb⟩ := boolK_inv h hk
  exact truthy_bool (hp b hb)
theorem OpR.ts {env : Env} {Ψ φ φ1 : Store} {ρ : Str → Option Value} {Q : BS → Bool → Prop} {A : Around} {E : Value → Shared → Prop} {v : Value} {s' : Shared} (le : φ.Le φ1) : OpR C F env Ψ φ1 ρ vars bs (BoolK (Q bs)) v s' → wpAny C.M A (truthy v) (TsR C F env Ψ φ ρ vars Q) E s'
  | ⟨φ', _, l, X, h, q⟩ => boolK_truthy h q fun _ hb => ⟨φ', bs, le.trans l, X, hb⟩
theorem Ts_cmp {l r : Expr} {op : CmpOp} {pos : Pos} {Q : BS → Bool → Prop} (h : Ev C F vars bs l fun b1 r1 => Ev C F vars b1 r fun b2 r2 => Op2 C (compareOp op) r1.norm r2.norm (BoolK (Q b2))) (hm : behindInMarks op r = false) : Ts C F vars bs (.Compare l [op] [r] pos) Q :=
  ⟨fun A env Ψ φ ρ s hA X => wpAny_isTrue_Compare1 (wpM (two (K := fun b2 r1 r2 => Op2 C (compareOp op) r1 r2 (BoolK (Q b2))) h hA X) fun _ _ h1 => wpM h1 fun _ _ ⟨_, _, _, _, le, X2, h1, h2, k⟩ =>
    wpM (k.run _ _ _ _ _ _ _ _ _ _ _ _ hA X2 h1 h2) fun _ _ => OpR.ts le) hm⟩
theorem Ts_not {x : Expr} {pos : Pos} {Q : BS → Bool → Prop} (h : Ts C F vars bs x fun b t => Q b (!t)) : Ts C F vars bs (.UnaryOp .Not x pos) Q :=
  ⟨fun A env Ψ φ ρ s hA X => wpAny_isTrue_Not (wpM (h.run A env Ψ φ ρ s hA X) fun _ _ ⟨φ', b, le, X, q⟩ => ⟨φ', b, le, X, q⟩)⟩
theorem Ts_val {e : Expr} {Q : BS → Bool → Prop} (h : Ev C F vars bs e fun b r => BoolK (Q b) r) (he : ∀ env (whole : Sem Value), isTrue e env whole = (do let v ← whole; standAt e.pos; holding [v] (truthy v))) : Ts C F vars bs e Q :=
  ⟨fun A env Ψ φ ρ s hA X => wpAny_isTrue_value (wpM (h.run A env Ψ φ ρ s hA X) fun _ _ ⟨φ', b, r, le, X', h', k⟩ => boolK_truthy h' k fun t ht => ⟨φ', b, le, X', ht⟩) (he _ _)⟩
structure TsA (C : Cx) (F : Fm) (vars : Vars) (bs : BS) (op : BoolOp) (es : List Expr) (Q : BS → Bool → Prop) : Prop where
  run : ∀ A env Ψ φ ρ s, AOk F.n A → St C F env Ψ φ ρ vars bs s → wpAny C.M A (allTrue op es env) (TsR C F env Ψ φ ρ vars Q) (fun _ _ => False) s
theorem Ts_boolop {op : BoolOp} {es : List Expr} {pos : Pos} {Q : BS → Bool → Prop} (h : TsA C F vars bs op es Q) : Ts C F vars bs (.BoolOp op es pos) Q :=
  ⟨fun A env Ψ φ ρ s hA X => wpAny_isTrue_BoolOp (h.run A env Ψ φ ρ s hA X)⟩
theorem TsA_and_nil {Q : BS → Bool → Prop} (h : Q bs true) : TsA C F vars bs .And [] Q := ⟨fun _ _ _ φ _ _ _ X => wpAny_allTrue_And_nil ⟨φ, bs, Store.Le.refl φ, X, h⟩⟩
theorem TsA_or_nil {Q : BS → Bool → Prop} (h : Q bs false) : TsA C F vars bs .Or [] Q := ⟨fun _ _ _ φ _ _ _ X => wpAny_allTrue_Or_nil ⟨φ, bs, Store.Le.refl φ, X, h⟩⟩
theorem TsA_and {x : Expr} {rest : List Expr} {Q : BS → Bool → Prop} (h : Ts C F vars bs x fun b t => (t = true → TsA C F vars b .And rest Q) ∧ (t = false → Q b false)) : TsA C F vars bs .And (x :: rest) Q :=
  ⟨fun A env Ψ φ ρ s hA X => wpAny_allTrue_And_cons (wpM (h.run A env Ψ φ ρ s hA X) fun t _ ⟨φ', b, le, X', k⟩ => by
    cases t with
    | true => exact wpM ((k.1 rfl).run A env Ψ φ' ρ _ hA X') fun _ _ => TsR.le le
    | false => exact ⟨φ', b, le, X', k.2 rfl⟩)⟩
theorem TsA_or {x : Expr} {rest : List Expr} {Q : BS → Bool → Prop} (h : Ts C F vars bs x fun b t => (t = true → Q b true) ∧ (t = false → TsA C F vars b .Or rest Q)) : TsA C F vars bs .Or (x :: rest) Q :=
  ⟨fun A env Ψ φ ρ s hA X => wpAny_allTrue_Or_cons (wpM (h.run A env Ψ φ ρ s hA X) fun t _ ⟨φ', b, le, X', k⟩ => by
    cases t with
    | false => exact wpM ((k.2 rfl).run A env Ψ φ' ρ _ hA X') fun _ _ => TsR.le le
    | true => exact ⟨φ', b, le, X', k.1 rfl⟩)⟩
theorem Ev_and {x y : Expr} {pos : Pos} (h : Ev C F vars bs x fun b r => BoolK (fun t => (t = true → Ev C F vars b y Q) ∧ (t = false → Q b (.val (.bool false)))) r) : Ev C F vars bs (.BoolOp .And [x, y] pos) Q :=
  ⟨fun A env Ψ φ ρ s hA X => wpAny_And2 (wpM (h.run A env Ψ φ ρ s hA X) fun v s1 ⟨φ', b, r, le, X', h', k⟩ => by
    obtain ⟨t, rfl, k⟩ := boolK_inv h' k
    refine truthy_bool ?_
    cases t with
    | true => exact wpM ((k.1 rfl).run A env Ψ φ' ρ _ hA X') fun _ _ => EvR.le le
    | false => exact ⟨φ', b, .val _, le, X', Rep.bool _, k.2 rfl⟩)⟩
theorem Ev_or {x y : Expr} {pos : Pos} (h : Ev C F vars bs x fun b r => BoolK (fun t => (t = true → Q b (.val (.bool true))) ∧ (t = false → Ev C F vars b y Q)) r) : Ev C F vars bs (.BoolOp .Or [x, y] pos) Q :=
  ⟨fun A env Ψ φ ρ s hA X => wpAny_Or2 (wpM (h.run A env Ψ φ ρ s hA X) fun v s1 ⟨φ', b, r, le, X', h', k⟩ => by
    obtain ⟨t, rfl, k⟩ := boolK_inv h' k
    refine truthy_bool ?_
    cases t with
    | false => exact wpM ((k.2 rfl).run A env Ψ φ' ρ _ hA X') fun _ _ => EvR.le le
    | true => exact ⟨φ', b, .val _, le, X', Rep.bool _, k.1 rfl⟩)⟩
theorem Ev_if {t x y : Expr} {pos : Pos} (h : Ts C F vars bs t fun b c => (c = true → Ev C F vars b x Q) ∧ (c = false → Ev C F vars b y Q)) : Ev C F vars bs (.IfExp t x y pos) Q :=
  ⟨fun A env Ψ φ ρ s hA X => wpAny_IfExp (wpM (h.run A env Ψ φ ρ s hA X) fun c s1 ⟨φ', b, le, X', k⟩ => by
    cases c with
    | true => exact wpM ((k.1 rfl).run A env Ψ φ' ρ _ hA X') fun _ _ => EvR.le le
    | false => exact wpM ((k.2 rfl).run A env Ψ φ' ρ _ hA X') fun _ _ => EvR.le le)⟩
/-- 0 <= a < b -/
theorem Ts_cmp2 {l m r : Expr} {o1 o2 : CmpOp} {pos : Pos} {Q : BS → Bool → Prop}
    (h : Ev C F vars bs l fun b1 r1 => Ev C F vars b1 m fun b2 r2 => Op2 C (compareOp o1) r1.norm r2.norm (BoolK fun t => (t = true → Ev C F vars b2 r fun b3 r3 => Op2 C (compareOp o2) r2.norm r3.norm (BoolK (Q b3))) ∧ (t = false → Q b2 false)))
    (hm : behindInMarks o2 r = false) : Ts C F vars bs (.Compare l [o1, o2] [m, r] pos) Q :=
  ⟨fun A env Ψ φ ρ s hA X => by
    show wpAny C.M A (do testChain pos (← eval l env) [o1, o2] [eval m env, markedBehindIn o2 r (eval r env)]) _ _ s
    rw [markedBehindIn_of_false hm]
    refine wpAny_bind (wpM (one (K := fun b1 r1 => Ev C F vars b1 m fun b2 r2 => Op2 C (compareOp o1) r1 r2.norm (BoolK fun t => (t = true → Ev C F vars b2 r fun b3 r3 => Op2 C (compareOp o2) r2.norm r3.norm (BoolK (Q b3))) ∧ (t = false → Q b2 false))) h hA X) fun a s1 ⟨φ2, b1, r1, le1, X2, h2, k1⟩ => ?_)
    show wpAny C.M A (do let rv ← holding [a] (eval m env); standAt pos; let c ← holding [a, rv] (compareOp o1 a rv); release [a, rv] [c]; if ← holding [c, rv] (truthy c) then testChain pos rv [o2] [eval r env] else pure false) _ _ s1
    refine wpAny_bind (wpAny_holding (wpM (one (K := fun b2 r2 => Op2 C (compareOp o1) r1.norm r2 (BoolK fun t => (t = true → Ev C F vars b2 r fun b3 r3 => Op2 C (compareOp o2) r2 r3.norm (BoolK (Q b3))) ∧ (t = false → Q b2 false))) k1 hA X2) fun b s2 ⟨φ4, b2, r2, le3, X4, h4, k3⟩ => ?_))
    refine wpAny_bind (wpAny_standAt (wpAny_bind (wpAny_holding (wpM (k3.run _ _ _ _ _ _ _ _ _ _ _ _ hA X4 (h2.carry le3) h4) fun c s3 ⟨φ5, r5, le5, X5, h5, k5⟩ => ?_))))
    refine wpAny_bind (PySem.wpAny_release (wpAny_bind (wpAny_holding (boolK_truthy h5 k5 fun t ht => ?_))))
    have le : φ.Le φ5 := (le1.trans le3).trans le5
    cases t with
    | false => exact wpAny_pure ⟨φ5, _, le, X5, ht.2 rfl⟩
    | true =>
      show wpAny C.M A (do let rv ← holding [b] (eval r env); standAt pos; let c ← operate [b, rv] (compareOp o2 b rv); holding [c] (truthy c)) _ _ s3
      refine wpAny_bind (wpAny_holding (wpM (one (K := fun b3 r3 => Op2 C (compareOp o2) r2.norm r3 (BoolK (Q b3))) (ht.1 rfl) hA X5) fun d s4 ⟨φ7, b6, r6, le6, X7, h7, k6⟩ => ?_))
      refine wpAny_bind (wpAny_standAt (wpAny_bind (wpAny_operateT (wpM (k6.run _ _ _ _ _ _ _ _ _ _ _ _ hA X7 (h4.carry (le5.trans le6)) h7) fun c s5 hh => ?_))))
      exact wpAny_holding (OpR.ts (le.trans le6) hh)⟩
end
end Mine
end
section
set_option maxRecDepth 100000
set_option linter.unusedVariables false
namespace Mine
open PySem PySem.W PySem.Calls PyProof.Rows PySem.Spec
section
variable {C : Cx} {F : Fm} {vars : Vars} {bs : BS} {Q : BS → R → Prop} {k : R → Prop} {a b : Int}
theorem end_int {env : Env} {Ψ φ : Store} {ρ : Str → Option Value} {s : Shared} {c : Int} {u : Tok} {tk : Nat} (X : St C F env Ψ φ ρ vars bs s) (hk : k (.val (.int c))) :
    OpR C F env Ψ φ ρ vars bs k (.int c u) { s with toks := tk } := ⟨φ, .val _, Store.Le.refl φ, X.tick, Rep.int _ _, hk⟩
theorem end_bool {env : Env} {Ψ φ : Store} {ρ : Str → Option Value} {s : Shared} {c : Bool} (X : St C F env Ψ φ ρ vars bs s) (hk : k (.val (.bool c))) :
    OpR C F env Ψ φ ρ vars bs k (.bool c) s := ⟨φ, .val _, Store.Le.refl φ, X, Rep.bool _, hk⟩
theorem add_i (h : k (.val (.int (a + b)))) : Op2 C (binaryOp .Add) (.val (.int a)) (.val (.int b)) k :=
  ⟨fun n F A env Ψ φ ρ vars bs s v1 v2 hA X h1 h2 => by obtain ⟨_, rfl⟩ := Rep.int_inv h1; obtain ⟨_, rfl⟩ := Rep.int_inv h2; exact PyProof.Rows.add_int (end_int X h)⟩
theorem iadd_i (h : k (.val (.int (a + b)))) : Op2 C (inplaceOp .Add) (.val (.int a)) (.val (.int b)) k :=
  ⟨fun n F A env Ψ φ ρ vars bs s v1 v2 hA X h1 h2 => by obtain ⟨_, rfl⟩ := Rep.int_inv h1; obtain ⟨_, rfl⟩ := Rep.int_inv h2; exact PyProof.Rows.iadd_int (end_int X h)⟩
theorem sub_i (h : k (.val (.int (a - b)))) : Op2 C (binaryOp .Sub) (.val (.int a)) (.val (.int b)) k :=
  ⟨fun n F A env Ψ φ ρ vars bs s v1 v2 hA X h1 h2 => by obtain ⟨_, rfl⟩ := Rep.int_inv h1; obtain ⟨_, rfl⟩ := Rep.int_inv h2; exact PyProof.Rows.sub_int (end_int X h)⟩
theorem mul_i (hb : -(2 ^ 64) < b ∧ b < 2 ^ 64) (h : k (.val (.int (a * b)))) : Op2 C (binaryOp .Mult) (.val (.int a)) (.val (.int b)) k :=
  ⟨fun n F A env Ψ φ ρ vars bs s v1 v2 hA X h1 h2 => by obtain ⟨_, rfl⟩ := Rep.int_inv h1; obtain ⟨_, rfl⟩ := Rep.int_inv h2; exact PyProof.Rows.mul_int (end_int X h) (IntMulOk.of_right (intBits_le_64 hb.1 hb.2))⟩
theorem mod_i (hb : b ≠ 0) (h : k (.val (.int (a.fmod b)))) : Op2 C (binaryOp .Mod) (.val (.int a)) (.val (.int b)) k :=
  ⟨fun n F A env Ψ φ ρ vars bs s v1 v2 hA X h1 h2 => by obtain ⟨_, rfl⟩ := Rep.int_inv h1; obtain ⟨_, rfl⟩ := Rep.int_inv h2; exact PyProof.Rows.mod_int hb (end_int X h)⟩
theorem div_i (hb : b ≠ 0) (hs : b.natAbs < 1073741824) (h : k (.val (.int (a.fdiv b)))) : Op2 C (binaryOp .FloorDiv) (.val (.int a)) (.val (.int b)) k :=
  ⟨fun n F A env Ψ φ ρ vars bs s v1 v2 hA X h1 h2 => by obtain ⟨_, rfl⟩ := Rep.int_inv h1; obtain ⟨_, rfl⟩ := Rep.int_inv h2; exact PyProof.Rows.floordiv_int hb (end_int X h) (.inl (PyProof.noPylong_small hs))⟩
theorem pow_i (hb : 0 ≤ b ∧ b ≤ 1000000) (ha : a.natAbs < 2 ^ 64) (h : k (.val (.int (a ^ b.toNat)))) : Op2 C (binaryOp .Pow) (.val (.int a)) (.val (.int b)) k :=
  ⟨fun n F A env Ψ φ ρ vars bs s v1 v2 hA X h1 h2 => by obtain ⟨_, rfl⟩ := Rep.int_inv h1; obtain ⟨_, rfl⟩ := Rep.int_inv h2; exact PyProof.Rows.pow_int_small hb.1 hb.2 ha (end_int X h)⟩
theorem lt_i (h : k (.val (.bool (decide (a < b))))) : Op2 C (compareOp .Lt) (.val (.int a)) (.val (.int b)) k :=
  ⟨fun n F A env Ψ φ ρ vars bs s v1 v2 hA X h1 h2 => by obtain ⟨_, rfl⟩ := Rep.int_inv h1; obtain ⟨_, rfl⟩ := Rep.int_inv h2; exact PyProof.Rows.lt_int (end_bool X h)⟩
theorem gt_i (h : k (.val (.bool (decide (b < a))))) : Op2 C (compareOp .Gt) (.val (.int a)) (.val (.int b)) k :=
  ⟨fun n F A env Ψ φ ρ vars bs s v1 v2 hA X h1 h2 => by obtain ⟨_, rfl⟩ := Rep.int_inv h1; obtain ⟨_, rfl⟩ := Rep.int_inv h2; exact PyProof.Rows.gt_int (end_bool X h)⟩
theorem le_i (h : k (.val (.bool (decide (a ≤ b))))) : Op2 C (compareOp .LtE) (.val (.int a)) (.val (.int b)) k :=
  ⟨fun n F A env Ψ φ ρ vars bs s v1 v2 hA X h1 h2 => by obtain ⟨_, rfl⟩ := Rep.int_inv h1; obtain ⟨_, rfl⟩ := Rep.int_inv h2; exact PyProof.Rows.le_int (end_bool X h)⟩
theorem ge_i (h : k (.val (.bool (decide (b ≤ a))))) : Op2 C (compareOp .GtE) (.val (.int a)) (.val (.int b)) k :=
  ⟨fun n F A env Ψ φ ρ vars bs s v1 v2 hA X h1 h2 => by obtain ⟨_, rfl⟩ := Rep.int_inv h1; obtain ⟨_, rfl⟩ := Rep.int_inv h2; exact PyProof.Rows.ge_int (end_bool X h)⟩
theorem eq_i (h : k (.val (.bool (decide (a = b))))) : Op2 C (compareOp .Eq) (.val (.int a)) (.val (.int b)) k :=
  ⟨fun n F A env Ψ φ ρ vars bs s v1 v2 hA X h1 h2 => by obtain ⟨_, rfl⟩ := Rep.int_inv h1; obtain ⟨_, rfl⟩ := Rep.int_inv h2; exact PyProof.Rows.eq_int (end_bool X (by rwa [show (a == b) = decide (a = b) from rfl]))⟩
theorem neg_i (h : k (.val (.int (-a)))) : Op1 C (unaryOp .USub) (.val (.int a)) k :=
  ⟨fun n F A env Ψ φ ρ vars bs s v1 hA X h1 => by obtain ⟨_, rfl⟩ := Rep.int_inv h1; exact PyProof.Rows.neg_int (end_int X h)⟩
theorem ne_bb {x y : Bool} (h : k (.val (.bool (x != y)))) : Op2 C (compareOp .NotEq) (.val (.bool x)) (.val (.bool y)) k :=
  ⟨fun n F A env Ψ φ ρ vars bs s v1 v2 hA X h1 h2 => by obtain rfl := Rep.bool_inv h1; obtain rfl := Rep.bool_inv h2; exact PyProof.Rows.ne_bool (end_bool X h)⟩
theorem bInts_len (x : Array UInt8) : (KBw.bInts x).length = x.size := by simp [KBw.bInts]
theorem len_by {x : List Int} (hx : x.length ≤ 16777216) (h : k (.val (.int x.length))) : Op1 C (fun v => call (.builtin "len") [v]) (.val (.bytes x)) k :=
  ⟨fun n F A env Ψ φ ρ vars bs s v1 hA X h1 => by
    obtain ⟨b, t, rfl, e⟩ := Rep.bytes_inv h1
    have e2 := bInts_len b
    rw [e] at e2
    refine PySem.W.len_bytes (by lia) ?_
    rw [← e2]
    exact end_int X h⟩
theorem IsListOf {h : Heap} {l : Addr} {vs : Array Value} {n : Nat} (e : h.get? l = some (listOf vs n)) : h.IsList l vs := ⟨_, e, rfl, n, rfl⟩
theorem IsTupOf {h : Heap} {l : Addr} {vs : Array Value} {n : Nat} (e : h.get? l = some (tupOf vs n)) : h.IsTuple l vs := ⟨_, e, rfl, n, rfl⟩
theorem len_l {r : R} {ds : List D} (hi : r.items = some ds) (hx : ds.length ≤ 16777216) (h : k (.val (.int ds.length))) : Op1 C (fun v => call (.builtin "len") [v]) r k :=
  ⟨fun n F A env Ψ φ ρ vars bs s v1 hA X h1 => by
    obtain ⟨l, vs, n', rfl, h2, h3⟩ := RV.view X h1 hi
    have e := h3.length
    rw [Array.length_toList] at e
    refine call_len_list (IsListOf h2) (by lia) ?_
    rw [e]
    exact end_int X h⟩
theorem item_l {r : R} {ds : List D} {d : D} (hi : r.items = some ds) (h0 : 0 ≤ b) (h1 : b < 2 ^ 63) (hd : ds[b.toNat]? = some d) (h : k (.val d)) : Op2 C getItem r (.val (.int b)) k :=
  ⟨fun n F A env Ψ φ ρ vars bs s v1 v2 hA X h2 h3 => by
    obtain ⟨_, rfl⟩ := Rep.int_inv h3
    obtain ⟨l, vs, n', rfl, h4, h5⟩ := RV.view X h2 hi
    obtain ⟨v, e, hv⟩ := h5.get hd
    exact wpAny_getItem_list (IsListOf h4) h0 h1 (by simpa using e) ⟨φ, .val _, Store.Le.refl φ, X, hv, h⟩⟩
theorem item_ln {r : R} {ds : List D} {d : D} (hi : r.items = some ds) (h0 : b < 0) (h1 : -(ds.length : Int) ≤ b) (hx : ds.length ≤ 16777216) (hd : ds[(b + ds.length).toNat]? = some d) (h : k (.val d)) : Op2 C getItem r (.val (.int b)) k :=
  ⟨fun n F A env Ψ φ ρ vars bs s v1 v2 hA X h2 h3 => by
    obtain ⟨_, rfl⟩ := Rep.int_inv h3
    obtain ⟨l, vs, n', rfl, h4, h5⟩ := RV.view X h2 hi
    obtain ⟨v, e, hv⟩ := h5.get hd
    have e1 := h5.length
    rw [Array.length_toList] at e1
    exact wpAny_getItem_list_neg (IsListOf h4) h0 (by lia) (by lia) (by rw [e1]; simpa using e) ⟨φ, .val _, Store.Le.refl φ, X, hv, h⟩⟩
theorem item_by {x : List Int} {c : Int} (h0 : 0 ≤ b) (hx : x.length ≤ 16777216) (hd : x[b.toNat]? = some c) (h : k (.val (.int c))) : Op2 C getItem (.val (.bytes x)) (.val (.int b)) k :=
  ⟨fun n F A env Ψ φ ρ vars bs s v1 v2 hA X h2 h3 => by
    obtain ⟨_, rfl⟩ := Rep.int_inv h3
    obtain ⟨⟨l⟩, t, rfl, e⟩ := Rep.bytes_inv h2
    · skip
      have e2 : l.map (fun c : UInt8 => (c.toNat : Int)) = x := e
      have e3 : l.length = x.length := by rw [← e2, List.length_map]
      have hlt : b.toNat < x.length := by
        rcases Nat.lt_or_ge b.toNat x.length with h | h
        · exact h
        · rw [List.getElem?_eq_none h] at hd; cases hd
      refine PySem.W.getItem_bytes (by lia) h0 (by lia) ?_
      have : ((l.getD b.toNat 0).toNat : Int) = c := by
        rw [← e2, List.getElem?_map] at hd
        rw [List.getD_eq_getElem?_getD]
        rw [List.getElem?_eq_getElem (by lia)] at hd ⊢
        simpa using hd
      rw [this]
      exact end_int X h⟩
/-- a part of a list -/
noncomputable def cut {α : Type} (lo hi : Option Int) (l : List α) : List α := (l.drop (lo.elim 0 (clipAt l.length))).take (hi.elim l.length (clipAt l.length) - lo.elim 0 (clipAt l.length))
theorem slicePick_cut (items : Array Value) (lo hi : Option Int) : slicePick items lo hi none = (cut lo hi items.toList).toArray := by
  have key : ∀ (v : Option Int) (dn : Nat), dn ≤ items.size → (match v with | none => (dn : Int) | some i => max 0 (min (if i < 0 then i + items.size else i) items.size)) = ((v.elim dn (clipAt items.size) : Nat) : Int) := by
    intro v dn _
    cases v with
    | none => rfl
    | some i => exact (clipAt_cast _ _).symm
  have e1 : (sliceBounds lo hi none items.size).1 = ((lo.elim 0 (clipAt items.size) : Nat) : Int) := by rw [← key lo 0 (Nat.zero_le _)]; cases lo <;> rfl
  have e2 : (sliceBounds lo hi none items.size).2.1 = ((hi.elim items.size (clipAt items.size) : Nat) : Int) := by rw [← key hi items.size (Nat.le_refl _)]; cases hi <;> rfl
  have e3 : (sliceBounds lo hi none items.size).2.2 = 1 := rfl
  unfold slicePick
  rw [e1, e2, e3, sliceRange_one, pick_run]
  unfold cut
  rw [Array.length_toList]
theorem Reps.cut {φ : Store} {β : Addr} {vs : List Value} {ds : List D} (h : Reps φ β vs ds) (lo hi : Option Int) : Reps φ β (cut lo hi vs) (cut lo hi ds) := by
  unfold Mine.cut
  rw [h.length]
  exact (h.drop _).take _
noncomputable def seqTy : R → Option String
  | .val (.bytes _) => some "bytes"
  | .val (.tuple _) => some "tuple"
  | .val (.list _) => some "list"
  | .bor _ _ => some "list"
  | .own _ => some "list"
  | _ => none
theorem inPy {A : Around} {s : Shared} {v : Value} {T id : String} {E : Value → Shared → Prop} {P : Bool → Shared → Prop} (hT : s.TypeIs v T) (hl : typeLookup (.type T) "__getitem__" = pure (some (.builtin id))) (h : P false s) : wpAny C.M A (getitemInPython v) P E s := by
  rw [getitemInPython_of_ne hT.not_modules]
  refine wpAny_bind (wpAny_specialOf hT hl ?_)
  exact wpAny_pure h
theorem seqTy_inv {r : R} {T : String} (hT : seqTy r = some T) : (T = "bytes" ∧ ∃ x, r = .val (.bytes x)) ∨ (T = "tuple" ∧ ∃ x, r = .val (.tuple x)) ∨ (T = "list" ∧ ∃ ds, r.items = some ds) := by
  unfold seqTy at hT
  split at hT
  · exact .inl ⟨(Option.some.inj hT).symm, _, rfl⟩
  · exact .inr (.inl ⟨(Option.some.inj hT).symm, _, rfl⟩)
  · exact .inr (.inr ⟨(Option.some.inj hT).symm, _, rfl⟩)
  · exact .inr (.inr ⟨(Option.some.inj hT).symm, _, rfl⟩)
  · exact .inr (.inr ⟨(Option.some.inj hT).symm, _, rfl⟩)
  · cases hT
theorem typeIs_of {env : Env} {Ψ φ : Store} {ρ : Str → Option Value} {s : Shared} {v : Value} {r : R} {T : String} (X : St C F env Ψ φ ρ vars bs s) (hr : RV C env Ψ φ ρ vars s v r) (hT : seqTy r = some T) : s.TypeIs v T := by
  rcases seqTy_inv hT with ⟨rfl, x, rfl⟩ | ⟨rfl, x, rfl⟩ | ⟨rfl, ds, hi⟩
  · obtain ⟨_, t, rfl, e⟩ := Rep.bytes_inv hr
    exact PySem.W.typeIs_bytes _ _ _
  · obtain ⟨_, _, _, rfl, h1, _⟩ := Rep.tuple_inv hr
    exact ⟨_, X.G.fro _ _ h1, rfl⟩
  · obtain ⟨a, vs, n, rfl, h, _⟩ := RV.view X hr hi
    exact ⟨_, h, rfl⟩
theorem look_of {r : R} {T : String} (hT : seqTy r = some T) : ∃ id, typeLookup (.type T) "__getitem__" = pure (some (.builtin id)) := by
  rcases seqTy_inv hT with ⟨rfl, _⟩ | ⟨rfl, _⟩ | ⟨rfl, _⟩
  · exact ⟨_, PySem.W.FB.slot_bytes_getitem.lookup⟩
  · exact ⟨_, PySem.F.slot_tuple_getitem.lookup⟩
  · exact ⟨_, slot_list_getitem.lookup⟩
noncomputable def notSlice : Expr → Bool
  | .Slice .. => false
  | _ => true
theorem subscripted_plain {i : Expr} (hs : notSlice i = true) (o x : Value) : subscripted i false o x = operate [o, x] (getItem o x) := by
  cases i <;> first | rfl | cases hs
theorem Ev_sub {v i : Expr} {pos : Pos} (h : Ev C F vars bs v fun b1 r1 => Ev C F vars b1 i fun b2 r2 => (seqTy r1.norm).isSome = true ∧ Op2 C getItem r1.norm r2.norm (Q b2)) (hs : notSlice i = true) : Ev C F vars bs (.Subscript v i pos) Q :=
  ⟨fun A env Ψ φ ρ s hA X => by
    rw [eval_Subscript]
    refine wpAny_bind (wpM (two (K := fun b2 r1 r2 => (seqTy r1).isSome = true ∧ Op2 C getItem r1 r2 (Q b2)) h hA X) fun o s1 h1 => wpAny_bind (wpAny_holding (wpM h1 fun x s2 ⟨φ2, b2, r1, r2, le, X2, h2, h3, h4, k⟩ => ?_)))
    obtain ⟨T, hT⟩ := Option.isSome_iff_exists.mp h4
    obtain ⟨id, hl⟩ := look_of hT
    refine wpAny_bind (wpAny_standAt (wpAny_bind (inPy (typeIs_of X2 h2 hT) hl ?_)))
    rw [subscripted_plain hs]
    refine wpAny_bind (wpAny_operating (wpM (k.run _ _ _ _ _ _ _ _ _ _ _ _ hA X2 h2 h3) fun y s3 h5 => ?_))
    exact wpAny_bind (wpAny_letTemporaryGo (wpAny_pure (h5.ev le fun _ x => x)))⟩
/-- an optional part of a slice -/
inductive PaR (C : Cx) (F : Fm) (env : Env) (Ψ φ : Store) (ρ : Str → Option Value) (vars : Vars) (Q : BS → Option Int → Prop) (v : Value) (s' : Shared) : Prop
  | intro (φ' : Store) (bs' : BS) (i : Option Int) (le : φ.Le φ') (X : St C F env Ψ φ' ρ vars bs' s') (h : IsPart v i) (q : Q bs' i)
structure EvP (C : Cx) (F : Fm) (vars : Vars) (bs : BS) (e : Option Expr) (Q : BS → Option Int → Prop) : Prop where
  run : ∀ A env Ψ φ ρ s, AOk F.n A → St C F env Ψ φ ρ vars bs s → wpAny C.M A (evalPart e env) (PaR C F env Ψ φ ρ vars Q) (fun _ _ => False) s
noncomputable def IntK (k : Int → Prop) : R → Prop
  | .val (.int i) => k i
  | _ => False
theorem IntK.get {k : Int → Prop} {r : R} (h : IntK k r) : ∃ i, r = .val (.int i) ∧ k i := by
  unfold IntK at h
  split at h
  · exact ⟨_, rfl, h⟩
  · exact h.elim
theorem EvP_none {Q : BS → Option Int → Prop} (h : Q bs none) : EvP C F vars bs none Q := ⟨fun A env Ψ φ ρ s hA X => by rw [evalPart_none]; exact wpAny_pure ⟨φ, bs, none, Store.Le.refl φ, X, .none, h⟩⟩
theorem EvP_some {e : Expr} {Q : BS → Option Int → Prop} (h : Ev C F vars bs e fun b r => IntK (fun i => Q b (some i)) r) : EvP C F vars bs (some e) Q := ⟨fun A env Ψ φ ρ s hA X => by
  rw [evalPart_some]
  refine wpM (h.run A env Ψ φ ρ s hA X) fun v s1 ⟨φ', b, r, le, X', h', k⟩ => ?_
  obtain ⟨i, rfl, k⟩ := k.get
  obtain ⟨_, rfl⟩ := Rep.int_inv h'
  exact ⟨φ', b, some i, le, X', .int _ _, k⟩⟩
noncomputable def SliceK (lo hi : Option Int) (r : R) (k : R → Prop) : Prop := match r with
  | .val (.bytes x) => x.length ≤ 16777216 ∧ k (.val (.bytes (cut lo hi x)))
  | r => match r.items with
    | some ds => ds.length ≤ 16777216 ∧ k (.own (cut lo hi ds))
    | none => False
theorem SliceK.get {lo hi : Option Int} {r : R} {k : R → Prop} (h : SliceK lo hi r k) : (∃ x, r = .val (.bytes x) ∧ x.length ≤ 16777216 ∧ k (.val (.bytes (cut lo hi x)))) ∨ ∃ ds, r.items = some ds ∧ ds.length ≤ 16777216 ∧ k (.own (cut lo hi ds)) := by
  unfold SliceK at h
  split at h
  · exact .inl ⟨_, rfl, h⟩
  · split at h
    · rename_i ds hi; exact .inr ⟨ds, hi, h⟩
    · exact h.elim
theorem items_ty {r : R} {ds : List D} (h : r.items = some ds) : seqTy r = some "list" := by
  unfold R.items at h
  split at h <;> first | rfl | cases h
theorem slice_own {A : Around} {env : Env} {Ψ φ : Store} {ρ : Str → Option Value} {s : Shared} {o vl vu : Value} {r : R} {ds : List D} {i j : Option Int} {q : Addr} {K : R → Prop} (X : St C F env Ψ φ ρ vars bs s) (hsl : s.heap.IsSliceOf q vl vu .none) (p1 : IsPart vl i) (p2 : IsPart vu j)
    (h : RV C env Ψ φ ρ vars s o r) (hi : r.items = some ds) (hz : ds.length ≤ 16777216) (hq : K (.own (cut i j ds))) : wpAny C.M A (getItem o (.ref q)) (OpR C F env Ψ φ ρ vars bs K) (fun _ _ => False) s := by
  obtain ⟨l, vs, n', rfl, h4, h5⟩ := RV.view X h hi
  have e := h5.length
  rw [Array.length_toList] at e
  refine wpAny_getItem_list_slice (IsListOf h4) hsl p1 p2 .none (by simp) ?_ (by rw [sizeLine_eq]; lia)
  rw [slicePick_cut]
  obtain ⟨X6, h6⟩ := X.newOwn (tk := s.toks) (fun b o e => Heap.get?_push_of_some _ e) get?_size (Heap.get?_push_size _ rfl) (h5.cut i j)
  exact ⟨φ, _, Store.Le.refl _, X6, h6, hq⟩
theorem slice_by {A : Around} {env : Env} {Ψ φ : Store} {ρ : Str → Option Value} {s : Shared} {o vl vu : Value} {x : List Int} {i j : Option Int} {q : Addr} {K : R → Prop} (X : St C F env Ψ φ ρ vars bs s) (hsl : s.heap.IsSliceOf q vl vu .none) (p1 : IsPart vl i) (p2 : IsPart vu j)
    (h : Rep φ C.β o (.bytes x)) (hz : x.length ≤ 16777216) (hq : K (.val (.bytes (cut i j x)))) : wpAny C.M A (getItem o (.ref q)) (OpR C F env Ψ φ ρ vars bs K) (fun _ _ => False) s := by
  obtain ⟨arr, t, rfl, e⟩ := h.bytes_inv
  have e1 := bInts_len arr
  rw [e] at e1
  refine PySem.getItem_meets (PySem.W.typeIs_bytes _ _ _) (by decide) PySem.W.FB.slot_bytes_getitem PySem.W.FB.entry_bytes_getitem (PySem.W.FB.args_bytes_getitem_2 _ _) (KBc.meets_slice2 arr t _ p1 p2) ⟨hsl, ?_, fun t' tk => ?_⟩
  · have := KBc.size_picked_le arr i j
    rw [sizeLine_eq]; lia
  · exact ⟨φ, .val (.bytes (cut i j x)), Store.Le.refl _, X.tick, Rep.bytes t' (KBc.ints_picked e i j), hq⟩
theorem Ev_slice {v : Expr} {lo hi : Option Expr} {p pos : Pos}
    (h : Ev C F vars bs v fun b1 r1 => EvP C F vars b1 lo fun b2 i => EvP C F vars b2 hi fun b3 j => SliceK i j r1.norm (Q b3)) : Ev C F vars bs (.Subscript v (.Slice lo hi none p) pos) Q :=
  ⟨fun A env Ψ φ ρ s hA X => by
    rw [eval_Subscript]
    refine wpAny_bind (wpM (one (K := fun b1 r1 => EvP C F vars b1 lo fun b2 i => EvP C F vars b2 hi fun b3 j => SliceK i j r1 (Q b3)) (F := F) (vars := vars) (bs := bs) (by exact h) hA X) fun o s1 ⟨φ1, b1, r1, le1, X1, h1, k1⟩ => wpAny_bind (wpAny_holding (wpAny_Slice ?_)))
    refine wpM (k1.run A env Ψ φ1 ρ s1 hA X1) fun vl s2 ⟨φ2, b2, i, le2, X2, p1, k2⟩ => ?_
    refine wpM (k2.run A env Ψ φ2 ρ s2 hA X2) fun vu s3 ⟨φ3, b3, j, le3, X3, p2, k3⟩ => ?_
    rw [evalPart_none]
    refine wpAny_pure ?_
    have X4 : St C F env Ψ φ3 ρ vars b3 { s3 with heap := s3.heap.push { cls := .type "slice", data := .fields #[vl, vu, .none] } } := X3.grow (tk := s3.toks) fun b o e => Heap.get?_push_of_some _ e
    have hsl := Heap.IsSliceOf.new s3.heap vl vu .none
    have h3 := h1.carry (s' := { s3 with heap := s3.heap.push { cls := .type "slice", data := .fields #[vl, vu, .none] } }) (le2.trans le3)
    have le : φ.Le φ3 := (le1.trans le2).trans le3
    generalize r1.norm = r at k3 h3
    obtain ⟨T, hT, hh⟩ : ∃ T, seqTy r = some T ∧ wpAny C.M A (getItem o (.ref s3.heap.objs.size)) (OpR C F env Ψ φ3 ρ vars b3 (Q b3)) (fun _ _ => False) { s3 with heap := s3.heap.push { cls := .type "slice", data := .fields #[vl, vu, .none] } } := by
      rcases k3.get with ⟨x, rfl, hz, hq⟩ | ⟨ds, hi, hz, hq⟩
      · exact ⟨_, rfl, slice_by X4 hsl p1 p2 h3 hz hq⟩
      · exact ⟨_, items_ty hi, slice_own X4 hsl p1 p2 h3 hi hz hq⟩
    obtain ⟨id, hl⟩ := look_of hT
    refine wpAny_bind (wpAny_standAt (wpAny_bind (inPy (typeIs_of X4 h3 hT) hl ?_)))
    refine wpAny_bind (wpAny_operating (wpM hh fun y s4 h5 => ?_))
    exact wpAny_bind (wpAny_letTemporaryGo (wpAny_pure (h5.ev le fun _ x => x)))⟩
end
end Mine
end
section
set_option maxRecDepth 100000
set_option linter.unusedVariables false
namespace Mine
open PySem PySem.W PySem.Calls PyProof.Rows PySem.Spec
section
variable {C : Cx} {F : Fm} {vars : Vars} {bs : BS} {Q : Vars → BS → Fl → Prop}
theorem Ex1.mono {st : Stmt} {Q' : Vars → BS → Fl → Prop} (h : Ex1 C F vars bs st Q) (hq : ∀ v b f, Q v b f → Q' v b f) : Ex1 C F vars bs st Q' := ⟨fun A env Ψ φ ρ s hA X => wpAny_mono (h.run A env Ψ φ ρ s hA X) (fun _ _ ⟨φ', ρ', v, b, r, h1, h2, h3, h4⟩ => ⟨φ', ρ', v, b, r, h1, h2, h3, hq _ _ _ h4⟩) fun _ _ x => x⟩
theorem Ex.mono {st : List Stmt} {Q' : Vars → BS → Fl → Prop} (h : Ex C F vars bs st Q) (hq : ∀ v b f, Q v b f → Q' v b f) : Ex C F vars bs st Q' := ⟨fun A env Ψ φ ρ s hA X => wpAny_mono (h.run A env Ψ φ ρ s hA X) (fun _ _ ⟨φ', ρ', v, b, r, h1, h2, h3, h4⟩ => ⟨φ', ρ', v, b, r, h1, h2, h3, hq _ _ _ h4⟩) fun _ _ x => x⟩
noncomputable def NextK (k : Vars → BS → Prop) (Q : Vars → BS → Fl → Prop) (v : Vars) (b : BS) : Fl → Prop
  | .next => k v b
  | f => Q v b f
theorem Ex_nil (h : Q vars bs .next) : Ex C F vars bs [] Q := ⟨fun A env Ψ φ ρ s hA X => wpAny_execs_nil ⟨φ, ρ, vars, bs, .next, Store.Le.refl φ, X, trivial, h⟩⟩
theorem Ex_cons {st : Stmt} {rest : List Stmt} (h : Ex1 C F vars bs st (NextK (fun v b => Ex C F v b rest Q) Q)) : Ex C F vars bs (st :: rest) Q :=
  ⟨fun A env Ψ φ ρ s hA X => wpAny_execs_cons (wpAny_mono (h.run A env Ψ φ ρ s hA X) (fun f s1 ⟨φ1, ρ1, v1, b1, fl, le1, X1, h1, k1⟩ => by
    cases f with
    | next =>
      cases fl with
      | next => exact wpAny_mono (k1.run A env Ψ φ1 ρ1 s1 hA X1) (fun _ _ ⟨φ2, ρ2, v2, b2, fl2, le2, X2, h2, k2⟩ => ⟨φ2, ρ2, v2, b2, fl2, le1.trans le2, X2, h2, k2⟩) fun _ _ x => x
      | _ => exact h1.elim
    | brk => cases fl <;> first | exact h1.elim | exact ⟨φ1, ρ1, v1, b1, _, le1, X1, h1, k1⟩
    | cont => cases fl <;> first | exact h1.elim | exact ⟨φ1, ρ1, v1, b1, _, le1, X1, h1, k1⟩
    | ret v => cases fl <;> first | exact h1.elim | exact ⟨φ1, ρ1, v1, b1, _, le1, X1, h1, k1⟩) fun _ _ x => x)⟩
theorem Ex1_ret {e : Expr} {pos : Pos} (h : Ev C F vars bs e fun b r => Q vars b (.ret r)) : Ex1 C F vars bs (.Return (some e) pos) Q :=
  ⟨fun A env Ψ φ ρ s hA X => wpAny_Return_some (wpAny_mono (h.run A env Ψ φ ρ s hA X) (fun v s1 ⟨φ1, b1, r, le, X1, h1, k⟩ => ⟨φ1, ρ, vars, b1, .ret r, le, X1, h1, k⟩) fun _ _ x => x)⟩
theorem Ex1_if {t : Expr} {body orelse : List Stmt} {pos : Pos} (h : Ts C F vars bs t fun b c => (c = true → Ex C F vars b body Q) ∧ (c = false → Ex C F vars b orelse Q)) : Ex1 C F vars bs (.If t body orelse pos) Q :=
  ⟨fun A env Ψ φ ρ s hA X => wpAny_If (wpAny_mono (h.run A env Ψ φ ρ s hA X) (fun c s1 ⟨φ1, b1, le, X1, k⟩ => by
    cases c with
    | true => exact wpAny_mono ((k.1 rfl).run A env Ψ φ1 ρ s1 hA X1) (fun _ _ ⟨φ2, ρ2, v2, b2, fl2, le2, X2, h2, k2⟩ => ⟨φ2, ρ2, v2, b2, fl2, le.trans le2, X2, h2, k2⟩) fun _ _ x => x
    | false => exact wpAny_mono ((k.2 rfl).run A env Ψ φ1 ρ s1 hA X1) (fun _ _ ⟨φ2, ρ2, v2, b2, fl2, le2, X2, h2, k2⟩ => ⟨φ2, ρ2, v2, b2, fl2, le.trans le2, X2, h2, k2⟩) fun _ _ x => x) fun _ _ x => x)⟩
/-- what may be put under a name -/
noncomputable def SlotOk (C : Cx) (env : Env) (Ψ φ : Store) (ρ : Str → Option Value) (vars : Vars) (s : Shared) (v : Value) : Slot → Prop
  | .val d => Rep φ C.β v d
  | .mu ds => RV C env Ψ φ ρ vars s v (.own ds)
theorem lookup_ne {x y : Str} {sl : Slot} {vars : Vars} (h : y ≠ x) : ((x, sl) :: vars).lookup y = vars.lookup y := by
  rw [List.lookup_cons]
  have : (y == x) = false := by simpa using h
  rw [this]
theorem lookup_self {x : Str} {sl : Slot} {vars : Vars} : ((x, sl) :: vars).lookup x = some sl := by
  rw [List.lookup_cons]
  have : (x == x) = true := by simp
  rw [this]
theorem store_fst {env : Env} {Ψ φ : Store} {ρ : Str → Option Value} {s : Shared} {x : Str} {v : Value} {sl : Slot} {h' : Heap} {tk : Nat} {b : Addr} (X : St C F env Ψ φ ρ vars bs s) (hs : SlotOk C env Ψ φ ρ vars s v sl)
    (hb : Heap.SameBut b s.heap h')
    (hns : ∃ m, h'.Ns env.locals m ∧ ∀ y u, (if y = x then some v else ρ y) = some u → F.sc.names.lookup y = some .local → m y = some u)
    (hcell : ∀ y u, (if y = x then some v else ρ y) = some u → F.sc.names.lookup y = some .cell ∨ F.sc.names.lookup y = some .free → ∃ c, env.cells.lookup y = some c ∧ h'.IsCell c (some u))
    (hown : ∀ y ∈ F.ow, ∃ c u, env.cells.lookup y = some c ∧ h'.IsCell c u ∧ φ c = none ∧ Ψ c = none ∧ c ≠ C.β ∧ ∀ z, z ≠ y → env.cells.lookup z ≠ some c)
    (hseq : ∀ a vs n, s.heap.get? a = some (listOf vs n) → a ≠ b) :
    FSt C F env Ψ φ (fun y => if y = x then some v else ρ y) ((x, sl) :: vars) { s with heap := h', toks := tk } := by
  refine ⟨X.F.sc, X.F.kind, X.F.glob, X.F.blt, hns, X.F.loc, hcell, hown, X.F.fr, ?_, ?_, ?_⟩
  · intro y d e
    by_cases q : y = x
    · subst q; rw [lookup_self] at e; cases e
      exact ⟨v, if_pos rfl, hs⟩
    · rw [lookup_ne q] at e
      obtain ⟨u, h1, h2⟩ := X.F.val y d e
      exact ⟨u, (if_neg q).trans h1, h2⟩
  · intro y ds e
    by_cases q : y = x
    · subst q; rw [lookup_self] at e; cases e
      obtain ⟨a, ⟨vs, n, h1, h2, h3, h4, h5, h6⟩, h7⟩ := hs
      exact ⟨a, vs, n, (if_pos rfl).trans (congrArg some h1), (hb.2 a (hseq _ _ _ h2)).trans h2, h3, h4, h5, h6⟩
    · rw [lookup_ne q] at e
      obtain ⟨a, vs, n, h1, h2, h3, h4⟩ := X.F.mu y ds e
      exact ⟨a, vs, n, (if_neg q).trans h1, (hb.2 a (hseq _ _ _ h2)).trans h2, h3, h4⟩
  · intro y z ds es e1 e2 hne
    have one : ∀ z es, z ≠ x → vars.lookup z = some (.mu es) → sl = .mu ds → (some v) ≠ ρ z := by
      rintro z es q e rfl
      obtain ⟨a, h1, h2⟩ := hs
      exact Ne.symm (h2 z es e)
    by_cases q : y = x
    · have q2 : z ≠ x := fun w => hne (q.trans w.symm)
      subst q; rw [lookup_self] at e1; cases e1
      rw [lookup_ne q2] at e2
      show (if y = y then _ else _) ≠ (if z = y then _ else _)
      rw [if_pos rfl, if_neg q2]
      obtain ⟨a, h1, h2⟩ := hs
      exact Ne.symm (h2 z es e2)
    · rw [lookup_ne q] at e1
      by_cases q2 : z = x
      · subst q2; rw [lookup_self] at e2; cases e2
        show (if y = z then _ else _) ≠ (if z = z then _ else _)
        rw [if_neg q, if_pos rfl]
        obtain ⟨a, h1, h2⟩ := hs
        exact h2 y ds e1
      · rw [lookup_ne q2] at e2
        show (if y = x then _ else _) ≠ (if z = x then _ else _)
        rw [if_neg q, if_neg q2]
        exact X.F.dis y z ds es e1 e2 hne
theorem store_at' {env : Env} {Ψ φ : Store} {ρ : Str → Option Value} {s : Shared} {A : Around} {x : Str} {v : Value} {sl : Slot} {E : Value → Shared → Prop} {P : Unit → Shared → Prop} (X : St C F env Ψ φ ρ vars bs s) (hs : SlotOk C env Ψ φ ρ vars s v sl) (hx : isLoc F x = true)
    (hP : ∀ s', St C F env Ψ φ (fun y => if y = x then some v else ρ y) ((x, sl) :: vars) bs s' → (∀ a vs n, s.heap.get? a = some (listOf vs n) → s'.heap.get? a = some (listOf vs n)) → P () s') : wpAny C.M A (storeName env x v) P E s := by
  have hkind : env.scope.kind = .function := by rw [X.F.sc]; exact X.F.kind
  have hko : ∀ y, env.kindOf y = F.sc.names.lookup y := fun y => by show env.scope.names.lookup y = _; rw [X.F.sc]
  unfold isLoc at hx
  obtain ⟨m, hns, hm⟩ := X.F.ns
  obtain ⟨oL, esL, epL, hL, hLd, _⟩ := id hns
  split at hx
  · rename_i e
    refine wpAny_storeName_local ((hko x).trans e) hns (fun h' hn' hb => hP _ ⟨X.G.upd hb.extBut X.F.loc.1 X.F.loc.2.1 X.F.loc.2.2, store_fst X hs hb ⟨_, hn', ?_⟩ ?_ ?_ ?_⟩ ?_) (by rw [hkind]; rfl)
    · intro y u e1 e2
      show (if y = x then _ else _) = _
      by_cases q : y = x
      · rw [if_pos q] at e1 ⊢; exact e1
      · rw [if_neg q] at e1 ⊢; exact hm y u e1 e2
    · intro y u e1 e2
      have q : y ≠ x := by rintro rfl; rw [e] at e2; rcases e2 with e2 | e2 <;> cases e2
      rw [if_neg q] at e1
      obtain ⟨c, h1, h2⟩ := X.F.cell y u e1 e2
      refine ⟨c, h1, h2.sameBut hb ?_⟩
      rintro rfl
      obtain ⟨o, h3, h4⟩ := h2
      rw [hL] at h3; cases h3; rw [hLd] at h4; cases h4
    · intro y hy
      obtain ⟨c, u, h1, h2, h3⟩ := X.F.own y hy
      refine ⟨c, u, h1, h2.sameBut hb ?_, h3⟩
      rintro rfl
      obtain ⟨o, h3, h4⟩ := h2
      rw [hL] at h3; cases h3; rw [hLd] at h4; cases h4
    · rintro a vs n h1 rfl
      rw [hL] at h1; cases h1; cases hLd
    · intro a vs n h1
      refine (hb.2 a ?_).trans h1
      rintro rfl
      rw [hL] at h1; cases h1; cases hLd
  · rename_i e
    have hmem : x ∈ F.ow := by simpa using hx
    obtain ⟨c, u, h1, h2, h3, h4, h5, h6⟩ := X.F.own x hmem
    obtain ⟨oc, hoc, hocd⟩ := id h2
    refine wpAny_storeName_cell hkind ((hko x).trans e) h1 h2 fun h' hn' hb => hP _ ?_ ?_
    case refine_2 =>
      intro a vs n h7
      refine (hb.2 a ?_).trans h7
      rintro rfl
      rw [hoc] at h7; cases h7; cases hocd
    have hcL : env.locals ≠ c := by
      intro q; rw [q, hoc] at hL; cases hL; rw [hocd] at hLd; cases hLd
    have base : St C F env Ψ φ (fun y => if y = x then some v else ρ y) ((x, sl) :: vars) bs { s with heap := h', toks := s.toks } := by
      refine ⟨X.G.upd hb.extBut h3 h4 h5, store_fst X hs hb ⟨m, hns.sameBut hb hcL, ?_⟩ ?_ ?_ ?_⟩
      · intro y w e1 e2
        have q : y ≠ x := by rintro rfl; rw [e] at e2; cases e2
        rw [if_neg q] at e1; exact hm y w e1 e2
      · intro y w e1 e2
        by_cases q : y = x
        · subst q; rw [if_pos rfl] at e1; cases e1; exact ⟨c, h1, hn'⟩
        · rw [if_neg q] at e1
          obtain ⟨c', h7, h8⟩ := X.F.cell y w e1 e2
          refine ⟨c', h7, h8.sameBut hb ?_⟩
          rintro rfl; exact h6 y q h7
      · intro y hy
        obtain ⟨c', w, h7, h8, h9⟩ := X.F.own y hy
        by_cases q : y = x
        · subst q; rw [h1] at h7; cases h7; exact ⟨c, _, h1, hn', h9⟩
        · refine ⟨c', w, h7, h8.sameBut hb ?_, h9⟩
          rintro rfl; exact h6 y q h7
      · rintro a vs n h7 rfl
        rw [hoc] at h7; cases h7; cases hocd
    exact base
  · cases hx
theorem store_at {env : Env} {Ψ φ : Store} {ρ : Str → Option Value} {s : Shared} {A : Around} {x : Str} {v : Value} {sl : Slot} {E : Value → Shared → Prop} {P : Unit → Shared → Prop} (X : St C F env Ψ φ ρ vars bs s) (hs : SlotOk C env Ψ φ ρ vars s v sl) (hx : isLoc F x = true)
    (hP : ∀ s', St C F env Ψ φ (fun y => if y = x then some v else ρ y) ((x, sl) :: vars) bs s' → P () s') : wpAny C.M A (storeName env x v) P E s := store_at' X hs hx fun s' X' _ => hP s' X'
theorem assign_name {env : Env} {Ψ φ : Store} {ρ : Str → Option Value} {s : Shared} {A : Around} {x : Str} {pos : Pos} {v : Value} {sl : Slot} {E : Value → Shared → Prop} {P : Unit → Shared → Prop} (X : St C F env Ψ φ ρ vars bs s) (hs : SlotOk C env Ψ φ ρ vars s v sl) (hx : isLoc F x = true)
    (hP : ∀ s', St C F env Ψ φ (fun y => if y = x then some v else ρ y) ((x, sl) :: vars) bs s' → P () s') : wpAny C.M A (assign (.Name x pos) env v) P E s := by
  rw [PySem.assign_Name]
  exact wpAny_bind (wpAny_standAt (wpAny_bindName (store_at X hs hx hP)))
noncomputable def isComp : Expr → Bool
  | .ListComp .. => true
  | .SetComp .. => true
  | .DictComp .. => true
  | _ => false
theorem swaps_false {value : Expr} {t : Expr} {line : Nat} {env : Env} (h : isComp value = false) : swapsWith value (some t) line env = pure false := by
  cases value <;> first | rfl | cases h
theorem swaps_none {e : Expr} {line : Nat} {env : Env} (h : isComp e = false) : swapsWith e none line env = pure false := by
  cases e <;> first | rfl | cases h
noncomputable def ValK (k : D → Prop) : R → Prop
  | .val d => k d
  | _ => False
noncomputable def OwnK (k : List D → Prop) : R → Prop
  | .own ds => k ds
  | _ => False
theorem ValK.get {k : D → Prop} {r : R} (h : ValK k r) : ∃ d, r = .val d ∧ k d := by
  unfold ValK at h
  split at h
  · exact ⟨_, rfl, h⟩
  · exact h.elim
theorem OwnK.get {k : List D → Prop} {r : R} (h : OwnK k r) : ∃ d, r = .own d ∧ k d := by
  unfold OwnK at h
  split at h
  · exact ⟨_, rfl, h⟩
  · exact h.elim
theorem Ex1_assign {x : Str} {p pos : Pos} {e : Expr} (h : Ev C F vars bs e fun b r => ValK (fun d => Q ((x, .val d) :: vars) b .next) r.norm) (hx : isLoc F x = true) (hc : isComp e = false) : Ex1 C F vars bs (.Assign [.Name x p] e pos) Q :=
  ⟨fun A env Ψ φ ρ s hA X => wpAny_Assign_Name (wpAny_mono (one (K := fun b r => ValK (fun d => Q ((x, .val d) :: vars) b .next) r) h hA X) (fun v s1 ⟨φ1, b1, r, le, X1, h1, k⟩ => by
    generalize r.norm = r at h1 k
    obtain ⟨d, rfl, k⟩ := k.get
    exact store_at X1 (sl := .val d) h1 hx fun s' X2 => ⟨φ1, _, _, b1, .next, le, X2, trivial, k⟩) fun _ _ x => x) (swaps_false hc)⟩
/-- the frame's own list -/
theorem Ex1_assign_mu {x : Str} {p pos : Pos} {e : Expr} (h : Ev C F vars bs e fun b r => OwnK (fun ds => Q ((x, .mu ds) :: vars) b .next) r) (hx : isLoc F x = true) (hc : isComp e = false) : Ex1 C F vars bs (.Assign [.Name x p] e pos) Q :=
  ⟨fun A env Ψ φ ρ s hA X => wpAny_Assign_Name (wpAny_mono (h.run A env Ψ φ ρ s hA X) (fun v s1 ⟨φ1, b1, r, le, X1, h1, k⟩ => by
    obtain ⟨ds, rfl, k⟩ := k.get
    exact store_at X1 (sl := .mu ds) h1 hx fun s' X2 => ⟨φ1, _, _, b1, .next, le, X2, trivial, k⟩) fun _ _ x => x) (swaps_false hc)⟩
theorem Ex1_aug {x : Str} {p pos : Pos} {e : Expr} {op : Operator} {d0 : D} (hv : vars.lookup x = some (.val d0)) (hk : isVar F.sc x = true)
    (h : Ev C F vars bs e fun b r => Op2 C (inplaceOp op) (.val d0) r.norm fun r' => ValK (fun d => Q ((x, .val d) :: vars) b .next) r'.norm) (hx : isLoc F x = true) : Ex1 C F vars bs (.AugAssign (.Name x p) op e pos) Q :=
  ⟨fun A env Ψ φ ρ s hA X => wpAny_AugAssign_Name (by
    obtain ⟨v0, hv0, hr0⟩ := X.F.val x d0 hv
    exact load_at X hv0 (wpAny_mono (one (K := fun b r => Op2 C (inplaceOp op) (.val d0) r fun r' => ValK (fun d => Q ((x, .val d) :: vars) b .next) r'.norm) h hA X) (fun v s1 ⟨φ1, b1, r, le, X1, h1, k⟩ =>
      wpAny_mono (k.run _ _ _ _ _ _ _ _ _ _ _ _ hA X1 (hr0.mono le) h1) (fun u s2 ⟨φ2, r2, le2, X2, h2, k2⟩ => by
        obtain ⟨φ3, le3, X3, h3⟩ := norm_step X2 h2
        generalize r2.norm = r2 at h3 k2
        obtain ⟨d, rfl, k2⟩ := k2.get
        exact store_at X3 (sl := .val d) h3 hx fun s' X4 => ⟨φ3, _, _, b1, .next, (le.trans le2).trans le3, X4, trivial, k2⟩) fun _ _ x => x) fun _ _ x => x) hk)⟩
end
end Mine
end
section
set_option maxRecDepth 100000
set_option linter.unusedVariables false
namespace Mine
open PySem PySem.W PySem.Calls PyProof.Rows PySem.Spec
section
variable {C : Cx} {F : Fm} {vars : Vars} {bs : BS}
theorem St.ext {env : Env} {Ψ φ : Store} {ρ : Str → Option Value} {s : Shared} {vars' : Vars} (X : St C F env Ψ φ ρ vars bs s) (h : ∀ x, vars'.lookup x = vars.lookup x) : St C F env Ψ φ ρ vars' bs s :=
  ⟨X.G, X.F.sc, X.F.kind, X.F.glob, X.F.blt, X.F.ns, X.F.loc, X.F.cell, X.F.own, X.F.fr, fun x d e => X.F.val x d (h x ▸ e), fun x ds e => X.F.mu x ds (h x ▸ e), fun x y ds es e1 e2 => X.F.dis x y ds es (h x ▸ e1) (h y ▸ e2)⟩
/-- fewer facts of the frame -/
theorem St.weaken {env : Env} {Ψ φ : Store} {ρ : Str → Option Value} {s : Shared} {vars' : Vars} (X : St C F env Ψ φ ρ vars bs s) (h : ∀ x sl, vars'.lookup x = some sl → vars.lookup x = some sl) : St C F env Ψ φ ρ vars' bs s :=
  ⟨X.G, X.F.sc, X.F.kind, X.F.glob, X.F.blt, X.F.ns, X.F.loc, X.F.cell, X.F.own, X.F.fr, fun x d e => X.F.val x d (h x _ e), fun x ds e => X.F.mu x ds (h x _ e), fun x y ds es e1 e2 => X.F.dis x y ds es (h x _ e1) (h y _ e2)⟩
theorem St.protect {env : Env} {Ψ φ : Store} {ρ : Str → Option Value} {s : Shared} (X : St C F env Ψ φ ρ vars bs s) {a : Addr} {o : Obj} (ha : s.heap.get? a = some o) (hφ : φ a = none) (hb : a ≠ C.β)
    (hl : a ≠ env.locals) (hc : ∀ x ∈ F.ow, env.cells.lookup x ≠ some a) (hm : ∀ x es, vars.lookup x = some (.mu es) → ρ x ≠ some (.ref a)) : St C F env (Ψ.put a o) φ ρ vars bs s := by
  have ne : ∀ b, b ≠ a → Ψ.put a o b = Ψ b := fun b q => by unfold Store.put; rw [if_neg q]
  refine ⟨⟨X.G.base, X.G.fro, ?_, ?_, X.G.bex, ?_, X.G.same⟩, ⟨X.F.sc, X.F.kind, X.F.glob, X.F.blt, X.F.ns, ?_, X.F.cell, ?_, ?_, X.F.val, ?_, X.F.dis⟩⟩
  · intro b o' e
    by_cases q : b = a
    · subst q; rw [Store.put_self] at e; cases e; exact ha
    · rw [ne b q] at e; exact X.G.pro b o' e
  · intro b o' e
    by_cases q : b = a
    · subst q; rw [hφ] at e; cases e
    · rw [ne b q]; exact X.G.sep b o' e
  · intro p e
    obtain ⟨h1, h2, h3⟩ := X.G.box p e
    exact ⟨h1, h2, by rw [ne _ (Ne.symm hb)]; exact h3⟩
  · exact ⟨X.F.loc.1, by rw [ne _ (Ne.symm hl)]; exact X.F.loc.2.1, X.F.loc.2.2⟩
  · intro x hx
    obtain ⟨c, v, h1, h2, h3, h4, h5, h6⟩ := X.F.own x hx
    exact ⟨c, v, h1, h2, h3, by rw [ne _ (fun q => hc x hx (q ▸ h1))]; exact h4, h5, h6⟩
  · intro x c e1 e2
    obtain ⟨o', e3⟩ := X.F.fr x c e1 e2
    by_cases q : c = a
    · subst q; exact ⟨o, Store.put_self ..⟩
    · exact ⟨o', (ne c q).trans e3⟩
  · intro x ds e
    obtain ⟨b, vs, n, h1, h2, h3, h4, h5, h6⟩ := X.F.mu x ds e
    exact ⟨b, vs, n, h1, h2, h3, h4, by rw [ne _ (fun q => hm x ds e (q ▸ h1))]; exact h5, h6⟩
theorem GSt.unprotect {Ψ Ψ' φ : Store} {s : Shared} (G : GSt C Ψ' φ bs s) (le : Ψ.Le Ψ') : GSt C Ψ φ bs s := by
  have un : ∀ b, Ψ' b = none → Ψ b = none := fun b e => by
    cases q : Ψ b with
    | none => rfl
    | some o => rw [le b o q] at e; cases e
  exact ⟨G.base, G.fro, fun b o e => G.pro b o (le b o e), fun b o e => un b (G.sep b o e), G.bex, fun p e => let ⟨h1, h2, h3⟩ := G.box p e; ⟨h1, h2, un _ h3⟩, G.same⟩
theorem St.unprotect {env : Env} {Ψ Ψ' φ : Store} {ρ : Str → Option Value} {s : Shared} (X : St C F env Ψ' φ ρ vars bs s) (le : Ψ.Le Ψ') (hfr : ∀ x c, env.cells.lookup x = some c → x ∉ F.ow → ∃ o, Ψ c = some o) : St C F env Ψ φ ρ vars bs s := by
  have un : ∀ b, Ψ' b = none → Ψ b = none := fun b e => by
    cases q : Ψ b with
    | none => rfl
    | some o => rw [le b o q] at e; cases e
  refine ⟨X.G.unprotect le, X.F.sc, X.F.kind, X.F.glob, X.F.blt, X.F.ns, ⟨X.F.loc.1, un _ X.F.loc.2.1, X.F.loc.2.2⟩, X.F.cell, ?_, hfr, X.F.val, ?_, X.F.dis⟩
  · intro x hx
    obtain ⟨c, v, h1, h2, h3, h4, h5⟩ := X.F.own x hx
    exact ⟨c, v, h1, h2, h3, un _ h4, h5⟩
  · intro x ds e
    obtain ⟨b, vs, n, h1, h2, h3, h4, h5, h6⟩ := X.F.mu x ds e
    exact ⟨b, vs, n, h1, h2, h3, h4, un _ h5, h6⟩
/-- results, the new lists among them apart -/
noncomputable def Dst (p q : Value × R) : Prop := ∀ ds es, p.2 = .own ds → q.2 = .own es → p.1 ≠ q.1
noncomputable def RVs (C : Cx) (env : Env) (Ψ φ : Store) (ρ : Str → Option Value) (vars : Vars) (s : Shared) (L : List (Value × R)) : Prop := (∀ p ∈ L, RV C env Ψ φ ρ vars s p.1 p.2) ∧ L.Pairwise Dst
inductive LsR (C : Cx) (F : Fm) (env : Env) (Ψ φ : Store) (ρ : Str → Option Value) (vars : Vars) (Q : BS → List R → Prop) (vs : List Value) (s' : Shared) : Prop
  | intro (φ' : Store) (bs' : BS) (L : List (Value × R)) (e : vs = L.map (·.1)) (le : φ.Le φ') (X : St C F env Ψ φ' ρ vars bs' s') (h : RVs C env Ψ φ' ρ vars s' L) (q : Q bs' (L.map (·.2)))
structure EvL (C : Cx) (F : Fm) (vars : Vars) (bs : BS) (es : List Expr) (Q : BS → List R → Prop) : Prop where
  run : ∀ A env Ψ φ ρ s pos, AOk F.n A → St C F env Ψ φ ρ vars bs s → wpAny C.M A (spliced (backTo pos (starEach es env))) (LsR C F env Ψ φ ρ vars Q) (fun _ _ => False) s
noncomputable def notStar : Expr → Bool
  | .Starred .. => false
  | _ => true
theorem starEach_plain {e : Expr} {rest : List Expr} {env : Env} (h : notStar e = true) : starEach (e :: rest) env = (false, eval e env) :: starEach rest env := by
  cases e <;> first | rfl | cases h
theorem RV.unprotect {env : Env} {Ψ Ψ' φ : Store} {ρ : Str → Option Value} {s : Shared} {v : Value} {r : R} (h : RV C env Ψ' φ ρ vars s v r) (le : Ψ.Le Ψ') : RV C env Ψ φ ρ vars s v r := by
  cases r with
  | val d => exact h
  | bor x ds => exact h
  | own ds =>
    obtain ⟨a, ⟨vs, n, h1, h2, h3, h4, h5, h6⟩, h7⟩ := h
    refine ⟨a, ⟨vs, n, h1, h2, h3, h4, ?_, h6⟩, h7⟩
    cases q : Ψ a with
    | none => rfl
    | some o => rw [le a o q] at h5; cases h5
theorem RVs.unprotect {env : Env} {Ψ Ψ' φ : Store} {ρ : Str → Option Value} {s : Shared} {L : List (Value × R)} (h : RVs C env Ψ' φ ρ vars s L) (le : Ψ.Le Ψ') : RVs C env Ψ φ ρ vars s L := ⟨fun p hp => (h.1 p hp).unprotect le, h.2⟩
theorem RV.mono' {env : Env} {Ψ φ φ' : Store} {ρ : Str → Option Value} {s s' : Shared} {v : Value} {r : R} (h : RV C env Ψ φ ρ vars s v r) (le : φ.Le φ') (ho : ∀ ds, r = .own ds → False) : RV C env Ψ φ' ρ vars s' v r := by
  cases r with
  | val d => exact Rep.mono le h
  | bor x ds => exact h
  | own ds => exact (ho ds rfl).elim
theorem EvL_nil {Q : BS → List R → Prop} (h : Q bs []) : EvL C F vars bs [] Q := ⟨fun A env Ψ φ ρ s pos hA X => wpAny_items_nil ⟨φ, bs, [], rfl, Store.Le.refl φ, X, ⟨fun _ h => (nomatch h), .nil⟩, h⟩⟩
theorem EvL_cons {e : Expr} {es : List Expr} {Q : BS → List R → Prop} (h : Ev C F vars bs e fun b r => EvL C F vars b es fun b' rs => Q b' (r :: rs)) (he : notStar e = true) : EvL C F vars bs (e :: es) Q :=
  ⟨fun A env Ψ φ ρ s pos hA X => wpAny_items_cons (wpAny_mono (h.run A env Ψ φ ρ s hA X) (fun v s1 ⟨φ1, b1, r, le1, X1, h1, k1⟩ => by
    cases r with
    | val d =>
      refine wpAny_mono (k1.run A env Ψ φ1 ρ s1 pos hA X1) (fun vs s2 ⟨φ2, b2, L, e, le2, X2, h2, k2⟩ => ?_) fun _ _ x => x
      exact ⟨φ2, b2, (v, .val d) :: L, by rw [e]; rfl, le1.trans le2, X2, ⟨List.forall_mem_cons.mpr ⟨h1.mono' le2 (fun _ q => by cases q), h2.1⟩, List.pairwise_cons.mpr ⟨fun _ _ _ _ q => (by cases q), h2.2⟩⟩, k2⟩
    | bor x ds =>
      refine wpAny_mono (k1.run A env Ψ φ1 ρ s1 pos hA X1) (fun vs s2 ⟨φ2, b2, L, e, le2, X2, h2, k2⟩ => ?_) fun _ _ x => x
      exact ⟨φ2, b2, (v, .bor x ds) :: L, by rw [e]; rfl, le1.trans le2, X2, ⟨List.forall_mem_cons.mpr ⟨h1.mono' le2 (fun _ q => by cases q), h2.1⟩, List.pairwise_cons.mpr ⟨fun _ _ _ _ q => (by cases q), h2.2⟩⟩, k2⟩
    | own ds =>
      obtain ⟨a, ⟨us, n, rfl, g1, g2, g3, g4, g5⟩, g6⟩ := h1
      have Y := X1.protect g1 g3 g5 (X1.ne_loc g1) (X1.ne_cell g1) g6
      have leΨ : Ψ.Le (Ψ.put a (listOf us n)) := Store.le_put g4
      refine wpAny_mono (k1.run A env _ φ1 ρ s1 pos hA Y) (fun vs s2 ⟨φ2, b2, L, e, le2, X2, h2, k2⟩ => ?_) fun _ _ x => x
      have hΨa : (Ψ.put a (listOf us n)) a = some (listOf us n) := Store.put_self ..
      have hφa : φ2 a = none := by
        cases q : φ2 a with
        | none => rfl
        | some o => rw [X2.G.sep a o q] at hΨa; cases hΨa
      have h0 : RV C env Ψ φ2 ρ vars s2 (.ref a) (.own ds) := ⟨a, ⟨us, n, rfl, X2.G.pro _ _ hΨa, g2.mono le2, hφa, g4, g5⟩, g6⟩
      refine ⟨φ2, b2, (.ref a, .own ds) :: L, by rw [e]; rfl, le1.trans le2, X2.unprotect leΨ X1.F.fr, ⟨List.forall_mem_cons.mpr ⟨h0, (h2.unprotect leΨ).1⟩, List.pairwise_cons.mpr ⟨fun p hp _ es _ q w => ?_, h2.2⟩⟩, k2⟩
      have h3 := h2.1 p hp
      rw [q] at h3
      obtain ⟨b, ⟨_, _, q1, _, _, _, q2, _⟩, _⟩ := h3
      rw [← w] at q1; cases q1; rw [hΨa] at q2; cases q2) fun _ _ x => x) (starEach_plain he)⟩
/-- frozen things, one behind the other -/
inductive DsR (C : Cx) (F : Fm) (env : Env) (Ψ φ : Store) (ρ : Str → Option Value) (vars : Vars) (Q : BS → List D → Prop) (vs : List Value) (s' : Shared) : Prop
  | intro (φ' : Store) (bs' : BS) (ds : List D) (le : φ.Le φ') (X : St C F env Ψ φ' ρ vars bs' s') (h : Reps φ' C.β vs ds) (q : Q bs' ds)
structure EvD (C : Cx) (F : Fm) (vars : Vars) (bs : BS) (es : List Expr) (Q : BS → List D → Prop) : Prop where
  run : ∀ A env Ψ φ ρ s pos, AOk F.n A → St C F env Ψ φ ρ vars bs s → wpAny C.M A (spliced (backTo pos (starEach es env))) (DsR C F env Ψ φ ρ vars Q) (fun _ _ => False) s
theorem EvD_nil {Q : BS → List D → Prop} (h : Q bs []) : EvD C F vars bs [] Q := ⟨fun A env Ψ φ ρ s pos hA X => wpAny_items_nil ⟨φ, bs, [], Store.Le.refl φ, X, .nil, h⟩⟩
theorem EvD_cons {e : Expr} {es : List Expr} {Q : BS → List D → Prop} (h : Ev C F vars bs e fun b r => ValK (fun d => EvD C F vars b es fun b' ds => Q b' (d :: ds)) r.norm) (he : notStar e = true) : EvD C F vars bs (e :: es) Q :=
  ⟨fun A env Ψ φ ρ s pos hA X => wpAny_items_cons (wpAny_mono (one (K := fun b r => ValK (fun d => EvD C F vars b es fun b' ds => Q b' (d :: ds)) r) h hA X) (fun v s1 ⟨φ1, b1, r, le1, X1, h1, k1⟩ => by
    generalize r.norm = r at h1 k1
    obtain ⟨d, rfl, k1⟩ := k1.get
    exact wpM (k1.run A env Ψ φ1 ρ s1 pos hA X1) fun vs s2 ⟨φ2, b2, ds, le2, X2, h2, k2⟩ => ⟨φ2, b2, _, le1.trans le2, X2, .cons (Rep.mono le2 h1) h2, k2⟩) fun _ _ x => x) (starEach_plain he)⟩
theorem Ev_list {es : List Expr} {pos : Pos} {Q : BS → R → Prop} (h : EvD C F vars bs es fun b ds => ds.length ≤ 1000 ∧ Q b (.own ds)) : Ev C F vars bs (.List es pos) Q :=
  ⟨fun A env Ψ φ ρ s hA X => wpAny_List (wpAny_mono (h.run A env Ψ φ ρ s pos hA X) (fun vs s1 ⟨φ1, b1, ds, le1, X1, h1, hz, k1⟩ => by
    refine ⟨by rw [h1.length, sizeLine_eq]; omega, ?_⟩
    obtain ⟨X2, h2⟩ := X1.newOwn (tk := s1.toks) (vs := vs.toArray) (fun b o e => Heap.get?_push_of_some _ e) get?_size (Heap.get?_push_size _ rfl) (by simpa using h1)
    exact ⟨φ1, b1, _, le1, X2, h2, k1⟩) fun _ _ x => x)⟩
/-! ### names told by tuples -/
noncomputable def namesOf : List Expr → Option (List Str)
  | [] => some []
  | .Name x _ :: r => (namesOf r).map (x :: ·)
  | _ => none
theorem namesOf_cons {t : Expr} {r : List Expr} {xs : List Str} (h : namesOf (t :: r) = some xs) : ∃ x p ys, t = .Name x p ∧ namesOf r = some ys ∧ xs = x :: ys := by
  have key : (∃ x p, t = .Name x p) ∨ namesOf (t :: r) = none := by
    clear h
    cases t <;> first | exact .inr rfl | exact .inl ⟨_, _, rfl⟩
  rcases key with ⟨x, p, rfl⟩ | e
  · simp only [namesOf, Option.map_eq_some_iff] at h
    obtain ⟨ys, h1, h2⟩ := h
    exact ⟨x, p, ys, rfl, h1, h2.symm⟩
  · rw [e] at h; cases h
theorem assignEach_names {env : Env} : ∀ {ts : List Expr} {xs : List Str}, namesOf ts = some xs → (assignEach ts env).length = xs.length ∧ (assignEach ts env).findIdx? (·.1) = none
  | [], xs, h => by cases h; exact ⟨rfl, rfl⟩
  | t :: r, xs, h => by
    obtain ⟨x, p, ys, rfl, h1, rfl⟩ := namesOf_cons h
    obtain ⟨h2, h3⟩ := assignEach_names (env := env) h1
    refine ⟨by show (assignEach r env).length + 1 = _; rw [h2]; rfl, ?_⟩
    show ((false, assign (.Name x p) env) :: assignEach r env).findIdx? (·.1) = none
    rw [List.findIdx?_cons]; simp [h3]
/-- the slots that results take: a new list becomes the frame's own, or is frozen -/
inductive SlotsFor : List R → List Slot → Prop
  | nil : SlotsFor [] []
  | val {d : D} {rs : List R} {ss : List Slot} : SlotsFor rs ss → SlotsFor (.val d :: rs) (.val d :: ss)
  | own {ds : List D} {rs : List R} {ss : List Slot} : SlotsFor rs ss → SlotsFor (.own ds :: rs) (.mu ds :: ss)
theorem RV.stored {env : Env} {Ψ φ : Store} {ρ : Str → Option Value} {s s' : Shared} {v u : Value} {r : R} {x : Str} {sl : Slot} (h : RV C env Ψ φ ρ vars s v r) (hr : ∀ y es, r ≠ .bor y es)
    (hk : ∀ a vs n, s.heap.get? a = some (listOf vs n) → s'.heap.get? a = some (listOf vs n)) (hn : ∀ ds, r = .own ds → ∀ es, sl = .mu es → u ≠ v) : RV C env Ψ φ (fun y => if y = x then some u else ρ y) ((x, sl) :: vars) s' v r := by
  cases r with
  | val d => exact h
  | bor y es => exact (hr _ _ rfl).elim
  | own ds =>
    obtain ⟨a, ⟨vs, n, h1, h2, h3⟩, h4⟩ := h
    refine ⟨a, ⟨vs, n, h1, hk _ _ _ h2, h3⟩, fun y es e => ?_⟩
    by_cases q : y = x
    · subst q; rw [lookup_self] at e; cases e
      show (if y = y then _ else _) ≠ _
      rw [if_pos rfl]
      exact fun w => hn ds rfl es rfl (Option.some.inj w)
    · rw [lookup_ne q] at e
      show (if y = x then _ else _) ≠ _
      rw [if_neg q]
      exact h4 y es e
structure Itm where
  x : Str
  v : Value
  r : R
  sl : Slot
  g : Value → Sem Unit
noncomputable def SlotFor : R → Slot → Prop
  | .val d, .val e => d = e
  | .own ds, .mu es => ds = es
  | _, _ => False
noncomputable def Puts (C : Cx) (A : Around) (env : Env) (p : Itm) : Prop := ∀ v (P : Unit → Shared → Prop) (E : Value → Shared → Prop) s, wpAny C.M A (storeName env p.x v) P E s → wpAny C.M A (p.g v) P E s
theorem store_list {env : Env} {A : Around} {E : Value → Shared → Prop} {P : Unit → Shared → Prop} :
    ∀ (L : List Itm) (Ψ φ : Store) (ρ : Str → Option Value) (vars : Vars) (s : Shared), St C F env Ψ φ ρ vars bs s → RVs C env Ψ φ ρ vars s (L.map fun p => (p.v, p.r)) → (∀ p ∈ L, SlotFor p.r p.sl ∧ isLoc F p.x = true ∧ Puts C A env p) →
      (∀ ρ' s', St C F env Ψ φ ρ' (L.reverse.map (fun p => (p.x, p.sl)) ++ vars) bs s' → P () s') → wpAny C.M A (assignInOrder (L.map (·.g)) (L.map (·.v))) P E s
  | [], Ψ, φ, ρ, vars, s, X, _, _, hP => wpAny_pure (hP ρ s X)
  | p :: L, Ψ, φ, ρ, vars, s, X, hr, hs, hP => by
    show wpAny _ _ (do holding (L.map (·.v)) (p.g p.v); assignInOrder (L.map (·.g)) (L.map (·.v))) _ _ _
    obtain ⟨h1, h2, hg⟩ := hs p List.mem_cons_self
    have h3 := hr.1 (p.v, p.r) List.mem_cons_self
    have hso : SlotOk C env Ψ φ ρ vars s p.v p.sl := by
      revert h1 h3
      cases p.r <;> cases p.sl <;> intro h1 h3 <;> first | exact h1.elim | (cases h1; exact h3)
    refine wpAny_bind (wpAny_holding (hg _ _ _ _ (store_at' X hso h2 fun s' X' hk => ?_)))
    refine store_list L Ψ φ _ _ s' X' ⟨fun q hq => ?_, (List.pairwise_cons.mp hr.2).2⟩ (fun q hq => hs q (List.mem_cons_of_mem _ hq)) fun ρ' s'' X'' => hP ρ' s'' ?_
    · obtain ⟨q', hq', rfl⟩ := List.mem_map.mp hq
      refine (hr.1 _ (List.mem_cons_of_mem _ hq)).stored (fun y es e => ?_) hk fun ds e es e2 => ?_
      · have := (hs q' (List.mem_cons_of_mem _ hq')).1
        rw [show q'.r = .bor y es from e] at this
        exact this
      · have h4 : p.r = .own es := by
          rw [e2] at h1; revert h1; cases p.r <;> intro h1 <;> first | exact h1.elim | (cases h1; rfl)
        exact (List.pairwise_cons.mp hr.2).1 _ hq _ _ h4 e
    · rw [List.reverse_cons, List.map_append, List.append_assoc]
      exact X''
theorem filter_names {env : Env} {line : Nat} : ∀ {ts : List Expr} {xs : List Str}, namesOf ts = some xs →
    (ts.filterMap fun | .Name id pos => if (env.kindOf id == some .local && pos.line == line) = true then some id else none | _ => none).length = ts.length →
    (ts.filterMap fun | .Name id pos => if (env.kindOf id == some .local && pos.line == line) = true then some id else none | _ => none) = xs
  | [], xs, h, _ => by cases h; rfl
  | t :: r, xs, h, hl => by
    obtain ⟨x, p, ys, rfl, h1, rfl⟩ := namesOf_cons h
    rw [List.filterMap_cons] at hl ⊢
    have hle := List.length_filterMap_le (fun | .Name id pos => if (env.kindOf id == some .local && pos.line == line) = true then some id else none | _ => none : Expr → Option Str) r
    by_cases q : (env.kindOf x == some .local && p.line == line) = true
    · simp only [if_pos q, List.length_cons, Nat.add_right_cancel_iff] at hl ⊢
      rw [filter_names h1 hl]
    · simp only [if_neg q, List.length_cons] at hl
      omega
theorem swapped_cases {env : Env} {ts vs : List Expr} {k k' : Nat} {p p' : Pos} {xs : List Str} (hn : namesOf ts = some xs) (hc : vs.all (foldedForSure 8) = true ∨ vs.all (constantsAlone 8) = false) :
    swappedStores [.Tuple ts k p] (.Tuple vs k' p') env = pure none ∨ swappedStores [.Tuple ts k p] (.Tuple vs k' p') env = pure (some xs) := by
  unfold swappedStores
  simp only []
  split
  · exact .inl rfl
  split
  · exact .inl rfl
  split
  · exact .inl rfl
  · rename_i hlen
    split
    · exact .inl rfl
    · rename_i hf
      rcases hc with hc | hc
      · exact absurd hc hf
      · rw [if_neg (by rw [hc]; exact Bool.false_ne_true)]
        right
        congr 2
        refine filter_names hn ?_
        simp only [Bool.or_eq_true, bne_iff_ne, ne_eq, not_or, Decidable.not_not] at hlen
        exact hlen.1
theorem reverse_lookup {xs : List (Str × Slot)} : (xs.map (·.1)).Nodup → ∀ (x : Str) (r : Vars), (xs.reverse ++ r).lookup x = (xs ++ r).lookup x := by
  induction xs with
  | nil => intro _ x r; rfl
  | cons p xs ih =>
    intro hnd x r
    rw [List.map_cons, List.nodup_cons] at hnd
    rw [List.reverse_cons, List.append_assoc, ih hnd.2]
    obtain ⟨y, sl⟩ := p
    show (xs ++ ([(y, sl)] ++ r)).lookup x = ((y, sl) :: (xs ++ r)).lookup x
    rw [List.lookup_cons]
    cases hb : x == y with
    | true =>
      obtain rfl := beq_iff_eq.mp hb
      have key : ∀ l : Vars, x ∉ l.map (·.1) → (l ++ ([(x, sl)] ++ r)).lookup x = some sl := by
        intro l hl
        induction l with
        | nil => exact lookup_self
        | cons q l ih2 =>
          obtain ⟨z, s2⟩ := q
          rw [List.map_cons, List.mem_cons, not_or] at hl
          rw [List.cons_append, lookup_ne hl.1]
          exact ih2 hl.2
      exact key xs hnd.1
    | false =>
      have hne : x ≠ y := by simpa using hb
      have key : ∀ l : Vars, (l ++ ([(y, sl)] ++ r)).lookup x = (l ++ r).lookup x := by
        intro l
        induction l with
        | nil => exact lookup_ne hne
        | cons q l ih2 =>
          obtain ⟨z, s2⟩ := q
          show ((z, s2) :: (l ++ ([(y, sl)] ++ r))).lookup x = ((z, s2) :: (l ++ r)).lookup x
          rw [List.lookup_cons, List.lookup_cons, ih2]
      exact key xs
noncomputable def slotOf : R → Option Slot
  | .val d => some (.val d)
  | .own ds => some (.mu ds)
  | .bor _ _ => none
/-- what a row of results puts under a row of names -/
noncomputable def putsOf : List Str → List R → Option Vars
  | [], [] => some []
  | x :: xs, r :: rs => match slotOf r, putsOf xs rs with
    | some sl, some vs => some ((x, sl) :: vs)
    | _, _ => none
  | _, _ => none
theorem items_of {env : Env} {A : Around} {ts : List Expr} : ∀ {xs : List Str} {L : List (Value × R)} {nv : Vars} (ps : List (Value → Sem Unit)), ps.length = xs.length → (∀ (i : Nat) (x : Str) (g : Value → Sem Unit), xs[i]? = some x → ps[i]? = some g → ∀ v (P : Unit → Shared → Prop) (E : Value → Shared → Prop) s, wpAny C.M A (storeName env x v) P E s → wpAny C.M A (g v) P E s) →
    (∀ x ∈ xs, isLoc F x = true) → putsOf xs (L.map (·.2)) = some nv →
    ∃ I : List Itm, I.map (·.g) = ps ∧ I.map (·.v) = L.map (·.1) ∧ I.map (fun p => (p.v, p.r)) = L ∧ I.map (fun p => (p.x, p.sl)) = nv ∧ ∀ p ∈ I, SlotFor p.r p.sl ∧ isLoc F p.x = true ∧ Puts C A env p
  | [], [], nv, [], _, _, _, h => by cases h; exact ⟨[], rfl, rfl, rfl, rfl, fun _ h => nomatch h⟩
  | [], [], nv, _ :: _, hl, _, _, h => by cases hl
  | [], _ :: _, nv, _, _, _, _, h => by cases h
  | x :: xs, [], nv, _, _, _, _, h => by cases h
  | x :: xs, (v, r) :: L, nv, [], hl, _, _, _ => by cases hl
  | x :: xs, (v, r) :: L, nv, g :: ps, hl, hg, hx, h => by
    rw [List.map_cons] at h
    unfold putsOf at h
    split at h
    · rename_i sl nv' h1 h2
      cases h
      obtain ⟨I, e1, e2, e3, e4, e5⟩ := items_of (env := env) (A := A) (ts := ts) ps (by simpa using hl) (fun i y g' ey eg => hg (i + 1) y g' (by simpa using ey) (by simpa using eg)) (fun y hy => hx y (List.mem_cons_of_mem _ hy)) h2
      refine ⟨⟨x, v, r, sl, g⟩ :: I, by rw [List.map_cons, e1], by rw [List.map_cons, List.map_cons, e2], by rw [List.map_cons, e3], by rw [List.map_cons, e4], List.forall_mem_cons.mpr ⟨⟨?_, hx x List.mem_cons_self, hg 0 x g rfl rfl⟩, e5⟩⟩
      cases r with
      | val d => cases h1; exact rfl
      | own ds => cases h1; exact rfl
      | bor y ds => cases h1
    · cases h
theorem putsOf_names : ∀ {xs : List Str} {rs : List R} {nv : Vars}, putsOf xs rs = some nv → nv.map (·.1) = xs ∧ rs.length = xs.length
  | [], [], nv, h => by cases h; exact ⟨rfl, rfl⟩
  | [], _ :: _, nv, h => by cases h
  | _ :: _, [], nv, h => by cases h
  | x :: xs, r :: rs, nv, h => by
    unfold putsOf at h
    split at h
    · rename_i sl nv' h1 h2
      cases h
      obtain ⟨a, b⟩ := putsOf_names h2
      exact ⟨by rw [List.map_cons, a], by rw [List.length_cons, List.length_cons, b]⟩
    · cases h
theorem RVs.same {env : Env} {Ψ φ : Store} {ρ : Str → Option Value} {s s' : Shared} {L : List (Value × R)} (h : RVs C env Ψ φ ρ vars s L) (hk : ∀ a o, s.heap.get? a = some o → s'.heap.get? a = some o) : RVs C env Ψ φ ρ vars s' L := by
  refine ⟨fun p hp => ?_, h.2⟩
  have := h.1 p hp
  revert this
  cases p.2 with
  | val d => exact id
  | bor x ds => exact id
  | own ds => rintro ⟨a, ⟨vs, n, h1, h2, h3⟩, h4⟩; exact ⟨a, ⟨vs, n, h1, hk _ _ h2, h3⟩, h4⟩
theorem assigns_at {env : Env} : ∀ {ts : List Expr} {xs : List Str}, namesOf ts = some xs → ((assignEach ts env).map (·.2)).length = xs.length ∧ ∀ (i : Nat) (x : Str) (g : Value → Sem Unit), xs[i]? = some x → ((assignEach ts env).map (·.2))[i]? = some g → ∀ A v (P : Unit → Shared → Prop) (E : Value → Shared → Prop) s, wpAny C.M A (storeName env x v) P E s → wpAny C.M A (g v) P E s
  | [], xs, h => by cases h; exact ⟨rfl, fun i x g e => by simp at e⟩
  | t :: r, xs, h => by
    obtain ⟨x, p, ys, rfl, h1, rfl⟩ := namesOf_cons h
    obtain ⟨h2, h3⟩ := assigns_at (env := env) h1
    have e0 : (assignEach (.Name x p :: r) env).map (·.2) = assign (.Name x p) env :: (assignEach r env).map (·.2) := rfl
    rw [e0]
    refine ⟨by rw [List.length_cons, List.length_cons, h2], fun i y g e1 e2 => ?_⟩
    cases i with
    | zero =>
      simp only [List.getElem?_cons_zero, Option.some.injEq] at e1 e2
      subst e1 e2
      intro A v P E s h4
      rw [PySem.assign_Name]
      exact wpAny_bind (wpAny_standAt (wpAny_bindName h4))
    | succ i =>
      simp only [List.getElem?_cons_succ] at e1 e2
      exact h3 i y g e1 e2
theorem Ex1_assign_tup {ts vs : List Expr} {k k' : Nat} {p p' pos : Pos} {xs : List Str} {Q : Vars → BS → Fl → Prop} (hn : namesOf ts = some xs) (hc : vs.all (foldedForSure 8) = true ∨ vs.all (constantsAlone 8) = false) (hx : xs.all (isLoc F) = true) (hnd : xs.Nodup)
    (h : EvL C F vars bs vs fun b rs => ∃ nv, putsOf xs rs = some nv ∧ rs.length ≤ 1000 ∧ Q (nv ++ vars) b .next) : Ex1 C F vars bs (.Assign [.Tuple ts k p] (.Tuple vs k' p') pos) Q :=
  ⟨fun A env Ψ φ ρ s hA X => by
    rw [exec_Assign_arm]
    refine wpAny_bind (wpAny_standAt (wpAny_bind (wpAny_of_eq (a := false) rfl ?_)))
    simp only [Bool.false_eq_true, if_false]
    refine wpAny_bind (wpAny_Tuple (wpAny_mono (h.run A env Ψ φ ρ s p' hA X) (fun us s1 ⟨φ1, b1, L, e, le1, X1, hr, nv, h1, hz, hq⟩ => ?_) fun _ _ x => x))
    subst e
    refine ⟨by rw [List.length_map, sizeLine_eq]; rw [List.length_map] at hz; omega, ?_⟩
    have X2 : St C F env Ψ φ1 ρ vars b1 { s1 with heap := s1.heap.push (tupOf (L.map (·.1)).toArray 0) } := X1.grow (tk := s1.toks) fun b o e => Heap.get?_push_of_some _ e
    have hr2 : RVs C env Ψ φ1 ρ vars { s1 with heap := s1.heap.push (tupOf (L.map (·.1)).toArray 0) } L := hr.same fun b o e => Heap.get?_push_of_some _ e
    have hT : (s1.heap.push (tupOf (L.map (·.1)).toArray 0)).IsTuple s1.heap.objs.size (L.map (·.1)).toArray := IsTupOf (Heap.get?_push_size _ rfl)
    obtain ⟨hnames, hlen⟩ := putsOf_names h1
    have hlen' : L.length = xs.length := by rw [← hlen, List.length_map]
    have hxs : ∀ x ∈ xs, isLoc F x = true := List.all_eq_true.mp hx
    rcases swapped_cases (env := env) (k := k) (k' := k') (p := p) (p' := p') hn hc with e | e
    · refine wpAny_bind (wpAny_of_eq e ?_)
      show wpAny C.M A (do assignAll (.ref s1.heap.objs.size) [assign (.Tuple ts k p) env]; pure Flow.next) _ _ _
      refine wpAny_bind ?_
      show wpAny C.M A (assign (.Tuple ts k p) env (.ref s1.heap.objs.size)) _ _ _
      obtain ⟨a1, a2⟩ := assignEach_names (env := env) hn
      refine PySem.wpAny_assign_Tuple hA.1 hT (by rw [a1]; simp [hlen']) a2 fun h' hb => ?_
      have keep : ∀ b o, (s1.heap.push (tupOf (L.map (·.1)).toArray 0)).get? b = some o → h'.get? b = some o := fun b o e => hb b o (fun q => by subst q; exact absurd (Heap.lt_size e) (Nat.lt_irrefl _)) e
      obtain ⟨g1, g2⟩ := assigns_at (C := C) (env := env) hn
      obtain ⟨I, e1, e2, e3, e4, e5⟩ := items_of (C := C) (F := F) (env := env) (A := A) (ts := ts) _ g1 (fun i x g ex eg => g2 i x g ex eg A) hxs h1
      rw [show (L.map (·.1)).toArray.toList = I.map (·.v) from by rw [e2], ← e1]
      refine store_list I Ψ φ1 ρ vars _ (X2.grow (tk := s1.toks) keep) (by rw [e3]; exact hr2.same keep) e5 fun ρ' s' X' => ?_
      refine wpAny_pure ⟨φ1, ρ', nv ++ vars, b1, .next, le1, X'.ext fun x => ?_, trivial, hq⟩
      rw [← List.map_reverse.symm, e4] at X'
      rw [← List.map_reverse.symm, e4]
      exact (reverse_lookup (by rw [hnames]; exact hnd) x vars).symm
    · refine wpAny_bind (wpAny_of_eq e ?_)
      show wpAny C.M A (do rule "assign.swapped-stores"; let items ← unpackItems (.ref s1.heap.objs.size) xs.length none; assignInOrder (xs.reverse.map fun n => bindName env n) items.reverse; pure Flow.next) _ _ _
      refine wpAny_bind (wpAny_rule (wpAny_bind ?_))
      have := wpAny_unpackItems_tuple (prog := C.prog) (w := C.w) (s := { s1 with heap := s1.heap.push (tupOf (L.map (·.1)).toArray 0) }) (E := fun _ _ => False) (A := A) (items := (L.map (·.1)).toArray) hA.1 hT (Q := fun items s' => wpAny C.M A (do assignInOrder (xs.reverse.map fun n => bindName env n) items.reverse; pure Flow.next) (ExR C F env Ψ φ Q) (fun _ _ => False) s') ?_
      · rw [show (L.map (·.1)).toArray.size = xs.length from by simp [hlen']] at this
        exact this
      intro h' hb
      have keep : ∀ b o, (s1.heap.push (tupOf (L.map (·.1)).toArray 0)).get? b = some o → h'.get? b = some o := fun b o e => hb b o (fun q => by subst q; exact absurd (Heap.lt_size e) (Nat.lt_irrefl _)) e
      obtain ⟨I, e1, e2, e3, e4, e5⟩ := items_of (C := C) (F := F) (env := env) (A := A) (ts := ts) (xs.map fun n => bindName env n) (List.length_map ..) (fun i x g ex eg v P E s h4 => by
        rw [List.getElem?_map, ex] at eg; cases eg; exact wpAny_bindName h4) hxs h1
      refine wpAny_bind ?_
      rw [show (L.map (·.1)).toArray.toList.reverse = I.reverse.map (·.v) from by rw [List.map_reverse, e2], show (xs.reverse.map fun n => bindName env n) = I.reverse.map (·.g) from by rw [List.map_reverse, List.map_reverse, e1]]
      refine store_list I.reverse Ψ φ1 ρ vars _ (X2.grow (tk := s1.toks) keep) ?_ (fun p hp => e5 p (List.mem_reverse.mp hp)) fun ρ' s' X' => ?_
      · rw [List.map_reverse, e3]
        have h6 := hr2.same (s' := { s1 with heap := h', toks := s1.toks }) keep
        exact ⟨fun p hp => h6.1 p (List.mem_reverse.mp hp), List.pairwise_reverse.mpr (h6.2.imp fun {a b} q ds es e1 e2 => Ne.symm (q es ds e2 e1))⟩
      · rw [List.reverse_reverse, e4] at X'
        exact wpAny_pure ⟨φ1, ρ', nv ++ vars, b1, .next, le1, X', trivial, hq⟩⟩
end
end Mine
end
section
set_option maxRecDepth 100000
set_option linter.unusedVariables false
namespace Mine
open PySem PySem.W PySem.Calls PyProof.Rows PySem.Spec
section
variable {C : Cx} {F : Fm} {vars : Vars} {bs : BS} {Q : Vars → BS → Fl → Prop}
/-- what a target (a name, or a tuple of names) takes of a frozen thing -/
noncomputable def bindT : Expr → D → Option Vars
  | .Name x _, d => some [(x, .val d)]
  | .Tuple ts _ _, .tuple ds => match namesOf ts with
    | some xs => putsOf xs (ds.map R.val)
    | none => none
  | _, _ => none
noncomputable def tgtOk (F : Fm) : Expr → Bool
  | .Name x _ => isLoc F x
  | .Tuple ts _ _ => match namesOf ts with
    | some xs => xs.all (isLoc F) && decide xs.Nodup
    | none => false
  | _ => false
theorem reps_rvs {env : Env} {Ψ φ : Store} {ρ : Str → Option Value} {s : Shared} {vs : List Value} {ds : List D} (h : Reps φ C.β vs ds) : ∃ L : List (Value × R), L.map (·.1) = vs ∧ L.map (·.2) = ds.map R.val ∧ RVs C env Ψ φ ρ vars s L := by
  induction vs generalizing ds with
  | nil => cases h; exact ⟨[], rfl, rfl, ⟨fun _ h => (by cases h), List.Pairwise.nil⟩⟩
  | cons v vs ih =>
    cases h with
    | @cons _ _ d ds h1 h2 =>
      obtain ⟨L, e1, e2, e3, e4⟩ := ih h2
      exact ⟨(v, .val d) :: L, by rw [List.map_cons, e1], by rw [List.map_cons, List.map_cons, e2], ⟨List.forall_mem_cons.mpr ⟨h1, e3⟩, List.pairwise_cons.mpr ⟨fun _ _ _ _ q => (by cases q), e4⟩⟩⟩
theorem assign_tgt {env : Env} {Ψ φ : Store} {ρ : Str → Option Value} {s : Shared} {A : Around} {t : Expr} {v : Value} {d : D} {nv : Vars} {E : Value → Shared → Prop} {P : Unit → Shared → Prop} (hA : A.handled = none) (X : St C F env Ψ φ ρ vars bs s) (hv : Rep φ C.β v d) (ht : tgtOk F t = true) (hb : bindT t d = some nv)
    (hP : ∀ ρ' s', St C F env Ψ φ ρ' (nv ++ vars) bs s' → P () s') : wpAny C.M A (assign t env v) P E s := by
  unfold bindT at hb
  split at hb
  · cases hb
    exact assign_name X (sl := .val d) hv ht fun s' X' => hP _ s' X'
  · rename_i ts k p ds
    split at hb
    · rename_i xs hn
      unfold tgtOk at ht
      simp only [hn, Bool.and_eq_true, decide_eq_true_eq] at ht
      obtain ⟨a, vs, n, rfl, h1, h2⟩ := Rep.tuple_inv hv
      · skip
        have hT := IsTupOf (X.G.fro _ _ h1)
        obtain ⟨hnames, hlen⟩ := putsOf_names hb
        rw [List.length_map] at hlen
        obtain ⟨a1, a2⟩ := assignEach_names (env := env) hn
        have e0 := h2.length
        refine PySem.wpAny_assign_Tuple hA hT (by rw [a1]; simp; omega) a2 fun h' hbb => ?_
        have keep : ∀ b o, s.heap.get? b = some o → h'.get? b = some o := fun b o e => hbb b o (fun q => by subst q; exact absurd (Heap.lt_size e) (Nat.lt_irrefl _)) e
        obtain ⟨g1, g2⟩ := assigns_at (C := C) (env := env) hn
        obtain ⟨L, f1, f2, f3⟩ := reps_rvs (C := C) (vars := vars) (env := env) (Ψ := Ψ) (ρ := ρ) (s := s) h2
        obtain ⟨I, e1, e2, e3, e4, e5⟩ := items_of (C := C) (F := F) (env := env) (A := A) (ts := ts) (L := L) _ g1 (fun i x g ex eg => g2 i x g ex eg A) (List.all_eq_true.mp ht.1) (by rw [f2]; exact hb)
        rw [show vs.toArray.toList = I.map (·.v) from by rw [e2, f1], ← e1]
        refine store_list I Ψ φ ρ vars _ (X.grow (h := h') (tk := s.toks) keep) (by rw [e3]; exact f3.same keep) e5 fun ρ' s' X' => ?_
        refine hP ρ' s' (X'.ext fun x => ?_)
        rw [← List.map_reverse.symm, e4]
        exact (reverse_lookup (by rw [hnames]; exact ht.2) x vars).symm
    · cases hb
  · cases hb
noncomputable def notTup : Expr → Bool
  | .Tuple .. => false
  | _ => true
theorem stores_none {ts : List Expr} {k : Nat} {p : Pos} {e : Expr} {env : Env} (h : notTup e = true) : swappedStores [.Tuple ts k p] e env = pure none := by
  cases e <;> first | rfl | cases h
/-- an own list is frozen: a step of the proof's, none of the program's -/
theorem Ex_freeze (x : Str) {ds : List D} {ss : List Stmt} (hx : vars.lookup x = some (.mu ds)) (h : Ex C F ((x, .val (.list ds)) :: vars) bs ss Q) : Ex C F vars bs ss Q :=
  ⟨fun A env Ψ φ ρ s hA X => by
    obtain ⟨a, vs, n, h1, h2, h3, h4, h5, h6⟩ := X.F.mu x ds hx
    obtain ⟨vs⟩ := vs
    have hw : St C F env Ψ (φ.put a (listOf vs.toArray n)) ρ ((x, .val (.list ds)) :: vars) bs s := by
      have le : φ.Le (φ.put a (listOf vs.toArray n)) := Store.le_put h4
      have ne : ∀ b, b ≠ a → φ.put a (listOf vs.toArray n) b = φ b := fun b q => by unfold Store.put; rw [if_neg q]
      refine ⟨X.G.freeze h2 h4 h5 h6, X.F.sc, X.F.kind, X.F.glob, X.F.blt, X.F.ns, ?_, X.F.cell, ?_, X.F.fr, ?_, ?_, ?_⟩
      · exact ⟨by rw [ne _ (Ne.symm (X.ne_loc h2))]; exact X.F.loc.1, X.F.loc.2⟩
      · intro y hy
        obtain ⟨c, v, g1, g2, g3, g4⟩ := X.F.own y hy
        exact ⟨c, v, g1, g2, by rw [ne _ (fun q => X.ne_cell h2 y hy (q ▸ g1))]; exact g3, g4⟩
      · intro y d e
        by_cases q : y = x
        · subst q; rw [lookup_self] at e; cases e
          exact ⟨_, h1, .list (Store.put_self ..) (h3.mono le)⟩
        · rw [lookup_ne q] at e
          obtain ⟨v, g1, g2⟩ := X.F.val y d e
          exact ⟨v, g1, g2.mono le⟩
      · intro y es e
        have q : y ≠ x := by rintro rfl; rw [lookup_self] at e; cases e
        rw [lookup_ne q] at e
        obtain ⟨b, us, m, g1, g2, g3, g4, g5⟩ := X.F.mu y es e
        refine ⟨b, us, m, g1, g2, g3.mono le, ?_, g5⟩
        rw [ne _ ?_]
        · exact g4
        · rintro rfl
          exact X.F.dis y x es ds e hx q (g1.trans h1.symm)
      · intro y z es fs e1 e2 hne
        have q : y ≠ x := by rintro rfl; rw [lookup_self] at e1; cases e1
        have q2 : z ≠ x := by rintro rfl; rw [lookup_self] at e2; cases e2
        rw [lookup_ne q] at e1; rw [lookup_ne q2] at e2
        exact X.F.dis y z es fs e1 e2 hne
    exact wpAny_mono (h.run A env Ψ _ ρ s hA hw) (fun _ _ => ExR.le (Store.le_put h4)) fun _ _ x => x⟩
theorem Ex_weak {vars' : Vars} {ss : List Stmt} (hv : ∀ x sl, vars'.lookup x = some sl → vars.lookup x = some sl) (h : Ex C F vars' bs ss Q) : Ex C F vars bs ss Q :=
  ⟨fun A env Ψ φ ρ s hA X => h.run A env Ψ φ ρ s hA (X.weaken hv)⟩
/-- one's own list is changed -/
theorem St.setOwn {env : Env} {Ψ φ : Store} {ρ : Str → Option Value} {s : Shared} {x : Str} {ds es : List D} {a : Addr} {vs ws : Array Value} {n m : Nat} {h : Heap} {tk : Nat} (X : St C F env Ψ φ ρ vars bs s) (hx : vars.lookup x = some (.mu ds)) (hρ : ρ x = some (.ref a)) (ha : s.heap.get? a = some (listOf vs n))
    (hk : ∀ b o, b ≠ a → s.heap.get? b = some o → h.get? b = some o) (hh : h.get? a = some (listOf ws m)) (hr : Reps φ C.β ws.toList es) : St C F env Ψ φ ρ ((x, .mu es) :: vars) bs { s with heap := h, toks := tk } := by
  obtain ⟨a', vs', n', h1, h2, h3, h4, h5, h6⟩ := X.F.mu x ds hx
  rw [hρ] at h1; cases h1
  refine ⟨X.G.upd hk h4 h5 h6, X.F.sc, X.F.kind, X.F.glob, X.F.blt, ?_, X.F.loc, ?_, ?_, X.F.fr, ?_, ?_, ?_⟩
  · obtain ⟨m, g1, g2⟩ := X.F.ns
    exact ⟨m, g1.extBut hk (Ne.symm (X.ne_loc ha)), g2⟩
  · intro y u e1 e2
    obtain ⟨c, g1, o, g2, g3⟩ := X.F.cell y u e1 e2
    refine ⟨c, g1, o, hk _ _ ?_ g2, g3⟩
    rintro rfl
    rw [ha] at g2; cases g2; cases g3
  · intro y hy
    obtain ⟨c, u, g1, ⟨o, g2, g3⟩, g4⟩ := X.F.own y hy
    refine ⟨c, u, g1, ⟨o, hk _ _ ?_ g2, g3⟩, g4⟩
    rintro rfl
    rw [ha] at g2; cases g2; cases g3
  · intro y d e
    have q : y ≠ x := by rintro rfl; rw [lookup_self] at e; cases e
    rw [lookup_ne q] at e
    exact X.F.val y d e
  · intro y fs e
    by_cases q : y = x
    · subst q; rw [lookup_self] at e; cases e
      exact ⟨a, ws, m, hρ, hh, hr, h4, h5, h6⟩
    · rw [lookup_ne q] at e
      obtain ⟨b, us, k, g1, g2, g3⟩ := X.F.mu y fs e
      refine ⟨b, us, k, g1, hk _ _ ?_ g2, g3⟩
      rintro rfl
      exact X.F.dis y x fs ds e hx q (g1.trans hρ.symm)
  · intro y z fs gs e1 e2 hne
    have key : ∀ y fs, ((x, Slot.mu es) :: vars).lookup y = some (.mu fs) → ∃ gs, vars.lookup y = some (.mu gs) := by
      intro y fs e
      by_cases q : y = x
      · subst q; exact ⟨ds, hx⟩
      · rw [lookup_ne q] at e; exact ⟨fs, e⟩
    obtain ⟨f1, e1⟩ := key y fs e1
    obtain ⟨f2, e2⟩ := key z gs e2
    exact X.F.dis y z f1 f2 e1 e2 hne
/-- x.append(e) -/
theorem Ex1_append {x : Str} {p0 p1 p2 p3 : Pos} {e : Expr} {ds : List D} (hx : vars.lookup x = some (.mu ds)) (hk : isVar F.sc x = true) (hz : ds.length ≤ 16777215) (hl : (p1.endLine == p2.line) = true)
    (h : Ev C F vars bs e fun b r => ValK (fun d => Q ((x, .mu (ds ++ [d])) :: vars) b .next) r.norm) (he : notStar e = true) (hi : ∀ env : Env, env.scope = F.sc → interactive env = false) :
    Ex1 C F vars bs (.Expr (.Call (.Attribute (.Name x p0) "append" p1) [e] [] p2) p3) Q :=
  ⟨fun A env Ψ φ ρ s hA X => by
    obtain ⟨a, vs, n, h1, h2, h3, h4, h5, h6⟩ := X.F.mu x ds hx
    refine wpAny_Expr (wpAny_Call_append (o := .Name x p0) rfl ?_ hl ?_ ?_) (hi env X.F.sc) rfl
    · rw [starEach_plain he]; rfl
    · rw [starEach_plain he]; rfl
    refine name_at X h1 ?_ hk
    refine ⟨a, vs, rfl, ⟨_, n, h2, rfl, rfl, rfl⟩, ?_⟩
    refine wpAny_mono (one (K := fun b r => ValK (fun d => Q ((x, .mu (ds ++ [d])) :: vars) b .next) r) h hA X) (fun v s1 ⟨φ1, b1, r, le, X1, g1, k1⟩ => ?_) fun _ _ x => x
    revert g1 k1
    generalize r.norm = r
    intro g1 k1
    cases r with
    | val d =>
      obtain ⟨a', vs', n', i1, i2, i3, _⟩ := X1.F.mu x ds hx
      rw [h1] at i1; cases i1
      have el := i3.length
      rw [Array.length_toList] at el
      refine wpAny_list_append_plain (hsz := by rw [sizeLine_eq]; omega) ⟨n', i2⟩ fun h' hp hb => ?_
      obtain ⟨m, hm⟩ := hp
      exact ⟨φ1, ρ, _, b1, .next, le, X1.setOwn (tk := s1.toks) hx h1 i2 hb.extBut hm (by rw [Array.toList_push]; exact i3.snoc g1), trivial, k1⟩
    | _ => exact k1.elim⟩
end
end Mine
end
section
set_option maxRecDepth 100000
set_option linter.unusedVariables false
namespace Mine
open PySem PySem.W PySem.Calls PyProof.Rows PySem.Spec
section
variable {C : Cx} {F : Fm} {vars : Vars} {bs : BS} {Q : Vars → BS → Fl → Prop}
noncomputable def TurnK (k : Vars → BS → Prop) (Q : Vars → BS → Fl → Prop) (v : Vars) (b : BS) : Fl → Prop
  | .next => k v b
  | .cont => k v b
  | .brk => Q v b .next
  | .ret r => Q v b (.ret r)
/-- an object of an iterator's own: a record, or a tuple -/
noncomputable def ItO (o : Obj) : Prop := (∃ vs, o.data = .fields vs) ∨ ∃ vs n, o = tupOf vs n
theorem ItO.notD {o : Obj} {P : Prop} (h : ItO o) (h1 : ∀ vs, o.data ≠ .fields vs) (h2 : ∀ vs n, o.data ≠ .seq vs n) : P := by
  rcases h with ⟨vs, e⟩ | ⟨vs, n, e⟩
  · exact (h1 vs e).elim
  · subst e; exact (h2 vs n rfl).elim
theorem ItO.notL {vs : Array Value} {n : Nat} {P : Prop} (h : ItO (listOf vs n)) : P := by
  rcases h with ⟨us, e⟩ | ⟨us, m, e⟩
  · cases e
  · have h : Value.type "list" = Value.type "tuple" := congrArg Obj.cls e
    exact absurd h (by decide)
noncomputable def IsFields (h : Heap) (a : Addr) : Prop := ∃ o, ∃ _ : Unit, h.get? a = some o ∧ ItO o
noncomputable def ItemRep (C : Cx) (φ : Store) (h h' : Heap) (v : Value) (d : D) : Prop :=
  Rep φ C.β v d ∨ ∃ T vs ds, v = .ref T ∧ d = .tuple ds ∧ h.get? T = none ∧ h'.get? T = some (tupOf vs.toArray 0) ∧ Reps φ C.β vs ds
structure Itr (C : Cx) (pv : List Addr) (I : Addr) (xs : List D) (tok : Expr → Prop) (J : Nat → Store → Heap → Prop) : Prop where
  frame : ∀ i φ φ' h h', J i φ h → φ.Le φ' → (∀ a ∈ pv, h'.get? a = h.get? a) → J i φ' h'
  item : ∀ i φ d A s target (E : Value → Shared → Prop) (P : Value → Shared → Prop), A.handled = none → tok target → J i φ s.heap → (∀ b o, φ b = some o → s.heap.get? b = some o) → (∀ a ∈ pv, φ a = none) → xs[i]? = some d →
    (∀ v h' tk, (∀ b o, b ∉ pv → s.heap.get? b = some o → h'.get? b = some o) → J (i + 1) φ h' → (∀ a ∈ pv, IsFields h' a) → ItemRep C φ s.heap h' v d → P v { s with heap := h', toks := tk }) →
    wpAny C.M A (pyNext (.ref I)) (fun r s1 => ∃ v, r = some v ∧ wpAny C.M A (letOwnedTupleGo target (.ref I) v) (fun _ s2 => P v s2) E s1) E s
  done : ∀ i φ A s (E : Value → Shared → Prop) (P : Shared → Prop), A.handled = none → J i φ s.heap → (∀ b o, φ b = some o → s.heap.get? b = some o) → (∀ a ∈ pv, φ a = none) → xs[i]? = none →
    (∀ h' tk, (∀ b o, b ∉ pv → s.heap.get? b = some o → h'.get? b = some o) → P { s with heap := h', toks := tk }) → wpAny C.M A (pyNext (.ref I)) (fun r s1 => r = none ∧ P s1) E s
  self : ∀ i φ A s (E : Value → Shared → Prop) (P : Value → Shared → Prop), J i φ s.heap → P (.ref I) s → wpAny C.M A (pyIter (.ref I)) P E s
noncomputable def Store.over (Ψ : Store) (pv : List Addr) (h : Heap) : Store := fun b => if b ∈ pv then h.get? b else Ψ b
structure PvOk (C : Cx) (Ψ φ : Store) (pv : List Addr) (h : Heap) : Prop where
  psi : ∀ a ∈ pv, Ψ a = none
  box : ∀ a ∈ pv, a ≠ C.β
  phi : ∀ a ∈ pv, φ a = none
  obj : ∀ a ∈ pv, IsFields h a
theorem St.stepPv {env : Env} {Ψ φ : Store} {ρ : Str → Option Value} {s : Shared} {pv : List Addr} {h : Heap} {tk : Nat} (X : St C F env Ψ φ ρ vars bs s) (V : PvOk C Ψ φ pv s.heap) (hk : ∀ b o, b ∉ pv → s.heap.get? b = some o → h.get? b = some o) :
    St C F env Ψ φ ρ vars bs { s with heap := h, toks := tk } := by
  have ne : ∀ b o, s.heap.get? b = some o → ¬ ItO o → h.get? b = some o := fun b o e hd => hk b o (fun m => by
    obtain ⟨o', vs, h1, h2⟩ := V.obj b m
    rw [e] at h1; cases h1; exact hd h2) e
  refine ⟨⟨X.G.base, fun b o e => hk b o (fun m => by rw [V.phi b m] at e; cases e) (X.G.fro b o e), fun b o e => hk b o (fun m => by rw [V.psi b m] at e; cases e) (X.G.pro b o e), X.G.sep, ?_, ?_, same_step X.G.same⟩,
    X.F.sc, X.F.kind, X.F.glob, X.F.blt, ?_, X.F.loc, ?_, ?_, X.F.fr, X.F.val, ?_, X.F.dis⟩
  · obtain ⟨o, e⟩ := X.G.bex
    exact ⟨o, hk _ _ (fun m => V.box _ m rfl) e⟩
  · intro p e
    obtain ⟨h1, h2⟩ := X.G.box p e
    exact ⟨h1.keep (fun o e => hk _ _ (fun m => V.box _ m rfl) e) (Store.Le.refl φ), h2⟩
  · obtain ⟨m, ⟨o, es, ep, h1, h2, h3⟩, h4⟩ := X.F.ns
    exact ⟨m, ⟨o, es, ep, ne _ _ h1 (fun q => q.notD (fun _ q => by rw [h2] at q; cases q) (fun _ _ q => by rw [h2] at q; cases q)), h2, h3⟩, h4⟩
  · intro x v e1 e2
    obtain ⟨c, h1, o, h2, h3⟩ := X.F.cell x v e1 e2
    exact ⟨c, h1, o, ne _ _ h2 (fun q => q.notD (fun _ q => by rw [h3] at q; cases q) (fun _ _ q => by rw [h3] at q; cases q)), h3⟩
  · intro x hx
    obtain ⟨c, v, h1, ⟨o, h2, h3⟩, h4⟩ := X.F.own x hx
    exact ⟨c, v, h1, ⟨o, ne _ _ h2 (fun q => q.notD (fun _ q => by rw [h3] at q; cases q) (fun _ _ q => by rw [h3] at q; cases q)), h3⟩, h4⟩
  · intro x ds e
    obtain ⟨a, vs, n, h1, h2, h3⟩ := X.F.mu x ds e
    exact ⟨a, vs, n, h1, ne _ _ h2 (fun q => q.notL), h3⟩
theorem St.over {env : Env} {Ψ φ : Store} {ρ : Str → Option Value} {s : Shared} {pv : List Addr} (X : St C F env Ψ φ ρ vars bs s) (V : PvOk C Ψ φ pv s.heap) : St C F env (Ψ.over pv s.heap) φ ρ vars bs s := by
  have ne : ∀ b, b ∉ pv → Ψ.over pv s.heap b = Ψ b := fun b q => by unfold Store.over; rw [if_neg q]
  have nin : ∀ b o, s.heap.get? b = some o → ¬ ItO o → b ∉ pv := fun b o e hd m => by
    obtain ⟨o', vs, h1, h2⟩ := V.obj b m
    rw [e] at h1; cases h1; exact hd h2
  refine ⟨⟨X.G.base, X.G.fro, ?_, ?_, X.G.bex, ?_, X.G.same⟩, X.F.sc, X.F.kind, X.F.glob, X.F.blt, X.F.ns, ?_, X.F.cell, ?_, ?_, X.F.val, ?_, X.F.dis⟩
  · intro b o e
    unfold Store.over at e
    split at e
    · exact e
    · exact X.G.pro b o e
  · intro b o e
    rw [ne b (fun m => by rw [V.phi b m] at e; cases e)]
    exact X.G.sep b o e
  · intro p e
    obtain ⟨h1, h2, h3⟩ := X.G.box p e
    exact ⟨h1, h2, by rw [ne _ (fun m => V.box _ m rfl)]; exact h3⟩
  · obtain ⟨m, ⟨o, es, ep, h1, h2, h3⟩, h4⟩ := X.F.ns
    exact ⟨X.F.loc.1, by rw [ne _ (nin _ _ h1 (fun q => q.notD (fun _ q => by rw [h2] at q; cases q) (fun _ _ q => by rw [h2] at q; cases q)))]; exact X.F.loc.2.1, X.F.loc.2.2⟩
  · intro x hx
    obtain ⟨c, v, h1, ⟨o, h2, h3⟩, h4, h5, h6⟩ := X.F.own x hx
    exact ⟨c, v, h1, ⟨o, h2, h3⟩, h4, by rw [ne _ (nin _ _ h2 (fun q => q.notD (fun _ q => by rw [h3] at q; cases q) (fun _ _ q => by rw [h3] at q; cases q)))]; exact h5, h6⟩
  · intro x c e1 e2
    obtain ⟨o, e3⟩ := X.F.fr x c e1 e2
    rw [ne c (fun m => by rw [V.psi c m] at e3; cases e3)]
    exact ⟨o, e3⟩
  · intro x ds e
    obtain ⟨a, vs, n, h1, h2, h3, h4, h5, h6⟩ := X.F.mu x ds e
    exact ⟨a, vs, n, h1, h2, h3, h4, by rw [ne _ (nin _ _ h2 (fun q => q.notL))]; exact h5, h6⟩
theorem le_over {Ψ φ : Store} {bs : BS} {s : Shared} {pv : List Addr} (G : GSt C Ψ φ bs s) : Ψ.Le (Ψ.over pv s.heap) := fun b o e => by
  unfold Store.over
  split
  · exact G.pro b o e
  · exact e
theorem over_mem {Ψ : Store} {pv : List Addr} {h : Heap} {a : Addr} (m : a ∈ pv) : Ψ.over pv h a = h.get? a := by unfold Store.over; rw [if_pos m]
/-- what an iterated thing yields -/
structure ItOk (C : Cx) (r : R) (xs : List D) : Prop where
  run : ∀ n F A env Ψ φ ρ vars bs s v, AOk n A → St C F env Ψ φ ρ vars bs s → RV C env Ψ φ ρ vars s v r →
    wpAny C.M A (pyIter v) (fun it s' => ∃ pv I J, it = .ref I ∧ (∃ h tk, s' = { s with heap := h, toks := tk } ∧ ∀ b o, s.heap.get? b = some o → h.get? b = some o) ∧ Itr C pv I xs (fun _ => True) J ∧ J 0 φ s'.heap ∧ ∀ a ∈ pv, s.heap.get? a = none ∧ IsFields s'.heap a) (fun _ _ => False) s
/-- an item of an iterator is bound -/
theorem item_bind {env : Env} {Ψ φ : Store} {ρ : Str → Option Value} {s : Shared} {A : Around} {t : Expr} {v : Value} {d : D} {nv : Vars} {E : Value → Shared → Prop} {P : Unit → Shared → Prop} {h0 : Heap} (hA : A.handled = none) (X : St C F env Ψ φ ρ vars bs s)
    (hk : ∀ b o, φ b = some o → h0.get? b = some o) (hk2 : ∀ b o, Ψ b = some o → ∃ o', h0.get? b = some o') (hk3 : ∃ o, h0.get? C.β = some o) (hk4 : ∀ x es, vars.lookup x = some (.mu es) → ∃ a o, ρ x = some (.ref a) ∧ h0.get? a = some o)
    (hv : ItemRep C φ h0 s.heap v d) (ht : tgtOk F t = true) (hb : bindT t d = some nv) (hP : ∀ φ' ρ' s', φ.Le φ' → St C F env Ψ φ' ρ' (nv ++ vars) bs s' → P () s') : wpAny C.M A (assign t env v) P E s := by
  rcases hv with hv | ⟨T, vs, ds, rfl, rfl, h1, h2, h3⟩
  · exact assign_tgt hA X hv ht hb fun ρ' s' X' => hP φ ρ' s' (Store.Le.refl φ) X'
  · have hφ : φ T = none := by
      cases e : φ T with
      | none => rfl
      | some o => rw [hk _ _ e] at h1; cases h1
    have hΨ : Ψ T = none := by
      cases e : Ψ T with
      | none => rfl
      | some o => obtain ⟨o', e'⟩ := hk2 _ _ e; rw [e'] at h1; cases h1
    have X2 := X.freeze h2 hφ hΨ (by rintro rfl; obtain ⟨o, e⟩ := hk3; rw [h1] at e; cases e) (X.ne_loc h2) (X.ne_cell h2) (fun x es e q => by
      obtain ⟨a, o, g1, g2⟩ := hk4 x es e
      rw [g1] at q; cases q; rw [h1] at g2; cases g2)
    exact assign_tgt hA X2 (.tuple (Store.put_self ..) (h3.mono (Store.le_put hφ))) ht hb fun ρ' s' X' => hP _ ρ' s' (Store.le_put hφ) X'
theorem forLoop2 {prog : Program} {w : World} {A : Around} {s : Shared} {R : Result → Shared → Prop} {target it body orelse env} (I : Nat → Shared → Prop)
    (turn : ∀ n s, I n s → wpAny (model prog w) A (pyNext it) (fun r s₁ => match r with
      | none => wpAny (model prog w) A (execs orelse env) (fun f s₃ => R (.ok f) s₃) (fun _ _ => False) s₁
      | some v => wpAny (model prog w) A (letOwnedTupleGo target it v) (fun _ s' => wpAny (model prog w) A (assign target env v) (fun _ s₂ => wpAny (model prog w) A (execs body env) (fun f s₃ => match f with
          | .next | .cont => ∃ m, m < n ∧ I m s₃
          | .brk => R (.ok .next) s₃
          | .ret v => R (.ok (.ret v)) s₃) (fun _ _ => False) s₂) (fun _ _ => False) s') (fun _ _ => False) s₁) (fun _ _ => False) s)
    (n : Nat) (h : I n s) : codeAny (model prog w) A (.forLoop target it body orelse env) R s := by
  refine codeAny_loop' rfl I (fun n s hI => ?_) n h
  show wpAny _ _ ((forTurn target it body orelse env).onRaise (fun x => do noteFrame x env; theTreesLotGoes x)) _ _ s
  refine wpAny_noted ?_
  simp only [forTurn]
  refine wpAny_bind (wpAny_standAt (wpAny_bind (wpAny_onRaise (wpAny_mono (turn n s hI) (fun r s₁ h₁ => ?_) fun _ _ h' => h'.elim))))
  cases r with
  | none => exact wpAny_pure (.inr ⟨rfl, codeAny_block (wpAny_mono h₁ (fun _ _ x => x) fun _ _ x => x.elim)⟩)
  | some v =>
    refine wpAny_bind (wpAny_mono h₁ (fun _ s' h' => ?_) fun _ _ x => x.elim)
    refine wpAny_bind (wpAny_mono h' (fun _ s₂ h₂ => wpAny_bind (wpAny_mono h₂ (fun f s₃ h₃ => ?_) fun _ _ h' => h'.elim)) fun _ _ h' => h'.elim)
    cases f with
    | next => exact wpAny_pure (.inl ⟨rfl, h₃⟩)
    | cont => exact wpAny_pure (.inl ⟨rfl, h₃⟩)
    | brk => exact wpAny_pure h₃
    | ret v => exact wpAny_pure h₃
noncomputable def notSetE : Expr → Bool
  | .Set .. => false
  | _ => true
theorem folded_plain {e : Expr} {env : Env} (h : notSetE e = true) (x : Value) : foldedSetIterable e env x = pure x := by
  cases e <;> first | rfl | cases h
theorem Itr.mono {pv : List Addr} {I : Addr} {xs : List D} {tok tok' : Expr → Prop} {J : Nat → Store → Heap → Prop} (h : ∀ t, tok' t → tok t) (It : Itr C pv I xs tok J) : Itr C pv I xs tok' J :=
  ⟨It.frame, fun i φ d A s t E P hA ht => It.item i φ d A s t E P hA (h t ht), It.done, It.self⟩
/-- what is walked through: told by its iterator -/
inductive SrcR (C : Cx) (F : Fm) (env : Env) (Ψ φ : Store) (ρ : Str → Option Value) (vars : Vars) (target : Expr) (K : BS → List D → Prop) : Value → Shared → Prop
  | intro (φ' : Store) (b : BS) (pv : List Addr) (I : Addr) (J : Nat → Store → Heap → Prop) (xs : List D) {s : Shared} (le : φ.Le φ') (X : St C F env Ψ φ' ρ vars b s) (It : Itr C pv I xs (fun t => t = target) J) (hJ : J 0 φ' s.heap)
    (hpv : ∀ a ∈ pv, φ' a = none ∧ Ψ a = none ∧ a ≠ C.β ∧ IsFields s.heap a) (k : K b xs) : SrcR C F env Ψ φ ρ vars target K (.ref I) s
theorem SrcR.mono {env : Env} {Ψ φ : Store} {ρ : Str → Option Value} {target : Expr} {K K' : BS → List D → Prop} (h : ∀ b xs, K b xs → K' b xs) {v : Value} {s : Shared} : SrcR C F env Ψ φ ρ vars target K v s → SrcR C F env Ψ φ ρ vars target K' v s
  | .intro φ' b pv I J xs le X It hJ hpv k => .intro φ' b pv I J xs le X It hJ hpv (h _ _ k)
structure Src (C : Cx) (F : Fm) (vars : Vars) (bs : BS) (target iter : Expr) (K : BS → List D → Prop) : Prop where
  run : ∀ A env Ψ φ ρ s, AOk F.n A → St C F env Ψ φ ρ vars bs s → wpAny C.M A (eval iter env) (fun x s1 => wpAny C.M A (pyIter x) (SrcR C F env Ψ φ ρ vars target K) (fun _ _ => False) s1) (fun _ _ => False) s
theorem Src.mono {target iter : Expr} {K K' : BS → List D → Prop} (h : Src C F vars bs target iter K) (hk : ∀ b xs, K b xs → K' b xs) : Src C F vars bs target iter K' :=
  ⟨fun A env Ψ φ ρ s hA X => wpAny_mono (h.run A env Ψ φ ρ s hA X) (fun x s1 h1 => wpAny_mono h1 (fun _ _ => SrcR.mono hk) fun _ _ x => x) fun _ _ x => x⟩
theorem Src_ev {target iter : Expr} {K : BS → List D → Prop} (hi : Ev C F vars bs iter fun b r => ∃ xs, ItOk C r.norm xs ∧ K b xs) : Src C F vars bs target iter K :=
  ⟨fun A env Ψ φ ρ s hA X => wpAny_mono (one (K := fun b r => ∃ xs, ItOk C r xs ∧ K b xs) hi hA X) (fun x s1 ⟨φ1, b1, r, le1, X1, h1, xs, k1, i1⟩ => by
    refine wpAny_mono (k1.run _ _ _ _ _ _ _ _ _ _ _ hA X1 h1) (fun it s2 ⟨pv, I, J, e, ⟨h, tk, e2, hk⟩, It, hJ, hpv⟩ => ?_) fun _ _ x => x
    subst e e2
    exact .intro φ1 b1 pv I J xs le1 (X1.grow hk) (It.mono fun _ _ => trivial) hJ (fun a m => ⟨(X1.G.new (hpv a m).1).1, (X1.G.new (hpv a m).1).2, X1.bne (hpv a m).1, (hpv a m).2⟩) i1) fun _ _ x => x⟩
inductive ForI (C : Cx) (F : Fm) (env : Env) (Ψ φ0 : Store) (pv : List Addr) (xs : List D) (J : Nat → Store → Heap → Prop) (Inv : List D → Vars → BS → Prop) (n : Nat) (s : Shared) : Prop
  | intro (i : Nat) (φ : Store) (ρ : Str → Option Value) (v : Vars) (b : BS) (hn : n + i = xs.length + 1) (hi : i ≤ xs.length) (le : φ0.Le φ) (X : St C F env Ψ φ ρ v b s) (hJ : J i φ s.heap) (V : PvOk C Ψ φ pv s.heap) (k : Inv (xs.drop i) v b) : ForI C F env Ψ φ0 pv xs J Inv n s
theorem Ex1_for_src {target iter : Expr} {body orelse : List Stmt} {pos : Pos} (Inv : List D → Vars → BS → Prop)
    (hi : Src C F vars bs target iter fun b xs => Inv xs vars b)
    (turn : ∀ x rest v b, Inv (x :: rest) v b → ∃ nv, bindT target x = some nv ∧ Ex C F (nv ++ v) b body (TurnK (fun v2 b2 => Inv rest v2 b2) Q))
    (done : ∀ v b, Inv [] v b → Ex C F v b orelse Q) (ht : tgtOk F target = true) (hs : notSetE iter = true) : Ex1 C F vars bs (.For target iter body orelse pos) Q :=
  ⟨fun A env Ψ φ ρ s hA X => by
    refine wpAny_For (wpAny_mono (hi.run A env Ψ φ ρ s hA X) (fun x s1 h1 => wpAny_mono h1 (fun it s2 h2 => ?_) fun _ _ x => x) fun _ _ x => x) (fun x => folded_plain hs x)
    obtain ⟨φ1, b1, pv, I, J, xs, le1, X2, It, hJ, hpv, i1⟩ := h2
    have cβ : ∀ a ∈ pv, a ≠ C.β := fun a m => (hpv a m).2.2.1
    have cΨ : ∀ a ∈ pv, Ψ a = none := fun a m => (hpv a m).2.1
    have cφ : ∀ a ∈ pv, φ1 a = none := fun a m => (hpv a m).1
    refine forLoop2 (ForI C F env Ψ φ pv xs J Inv) (fun n s3 hI => ?_) (xs.length + 1)
      ⟨0, φ1, ρ, vars, b1, rfl, Nat.zero_le _, le1, X2, hJ, ⟨cΨ, cβ, cφ, fun a m => (hpv a m).2.2.2⟩, by simpa using i1⟩
    obtain ⟨i, φ3, ρ3, v3, b3, hn, hi, le3, X3, J3, V3, i3⟩ := hI
    cases hx : xs[i]? with
    | none =>
      refine wpAny_mono (It.done i φ3 A s3 (fun _ _ => False) (fun s4 => St C F env Ψ φ3 ρ3 v3 b3 s4) hA.1 J3 X3.G.fro V3.phi hx fun h' tk' hk' => X3.stepPv V3 hk') (fun r s4 ⟨e, X4⟩ => ?_) fun _ _ x => x
      subst e
      have hd : xs.drop i = [] := by
        apply List.drop_eq_nil_of_le
        exact List.getElem?_eq_none_iff.mp hx
      rw [hd] at i3
      exact wpAny_mono ((done v3 b3 i3).run A env Ψ φ3 ρ3 s4 hA X4) (fun _ _ => ExR.le le3) fun _ _ x => x
    | some d =>
      have hlt : i < xs.length := (List.getElem?_eq_some_iff.mp hx).1
      have hd : xs.drop i = d :: xs.drop (i + 1) := by
        rw [List.drop_eq_getElem_cons hlt]
        congr 1
        exact (List.getElem?_eq_some_iff.mp hx).2
      rw [hd] at i3
      obtain ⟨nv, hb, hbody⟩ := turn d _ v3 b3 i3
      refine wpAny_mono (It.item i φ3 d A s3 target (fun _ _ => False) (fun v s4 => St C F env Ψ φ3 ρ3 v3 b3 s4 ∧ J (i + 1) φ3 s4.heap ∧ (∀ a ∈ pv, IsFields s4.heap a) ∧ ItemRep C φ3 s3.heap s4.heap v d) hA.1 rfl J3 X3.G.fro V3.phi hx fun v h' tk' hk' hJ' hp' hv' => ⟨X3.stepPv V3 hk', hJ', hp', hv'⟩) (fun r s4 ⟨v, e, h4⟩ => ?_) fun _ _ x => x
      subst e
      refine wpAny_mono h4 (fun _ s5 ⟨X5, J5, p5, v5⟩ => ?_) fun _ _ x => x
      have V5 : PvOk C Ψ φ3 pv s5.heap := ⟨V3.psi, V3.box, V3.phi, p5⟩
      have leΨ : Ψ.Le (Ψ.over pv s5.heap) := le_over X5.G
      refine item_bind (Ψ := Ψ.over pv s5.heap) hA.1 (X5.over V5) X3.G.fro ?_ X3.G.bex (fun x es e => ?_) v5 ht hb fun φ6 ρ6 s6 le6 X6 => ?_
      · intro b o e
        unfold Store.over at e
        split at e
        · rename_i m
          obtain ⟨o', _, g, _⟩ := V3.obj b m
          exact ⟨o', g⟩
        · exact ⟨o, X3.G.pro b o e⟩
      · obtain ⟨a, vs, n, g1, g2, _⟩ := X3.F.mu x es e
        exact ⟨a, _, g1, g2⟩
      refine wpAny_mono (hbody.run A env _ φ6 ρ6 s6 hA X6) (fun f s7 ⟨φ7, ρ7, v7, b7, fl, le7, X7, h7, k7⟩ => ?_) fun _ _ x => x
      have keepI : ∀ a ∈ pv, s7.heap.get? a = s5.heap.get? a := fun a m => by
        obtain ⟨o, vs, g1, g2⟩ := p5 a m
        rw [g1]; exact X7.G.pro a o (by rw [over_mem m]; exact g1)
      have phi7 : ∀ a ∈ pv, φ7 a = none := fun a m => by
        cases q : φ7 a with
        | none => rfl
        | some o =>
          obtain ⟨o', vs, g1, g2⟩ := p5 a m
          have := X7.G.sep a o q
          rw [over_mem m, g1] at this; cases this
      have X8 : St C F env Ψ φ7 ρ7 v7 b7 s7 := X7.unprotect leΨ X.F.fr
      have le8 : φ.Le φ7 := (le3.trans le6).trans le7
      have again : Inv (xs.drop (i + 1)) v7 b7 → ∃ m, m < n ∧ ForI C F env Ψ φ pv xs J Inv m s7 := fun hI =>
        ⟨xs.length - i, by omega, .intro (i + 1) φ7 ρ7 v7 b7 (by omega) hlt le8 X8 (It.frame _ _ _ _ _ J5 (le6.trans le7) keepI) ⟨V3.psi, V3.box, phi7, fun a m => by obtain ⟨o, vs, g1, g2⟩ := p5 a m; exact ⟨o, vs, (keepI a m).trans g1, g2⟩⟩ hI⟩
      cases f with
      | next => cases fl <;> first | exact h7.elim | exact again k7
      | cont => cases fl <;> first | exact h7.elim | exact again k7
      | brk => cases fl <;> first | exact h7.elim | exact ⟨φ7, ρ7, v7, b7, .next, le8, X8, trivial, k7⟩
      | ret v => cases fl <;> first | exact h7.elim | (rename_i r0; exact ⟨φ7, ρ7, v7, b7, .ret r0, le8, X8, RV.unprotect (env := env) (r := r0) h7 leΨ, k7⟩)⟩
end
end Mine
end
section
set_option maxRecDepth 100000
set_option linter.unusedVariables false
namespace Mine
open PySem PySem.W PySem.Calls PyProof.Rows PySem.Spec
section
variable {C : Cx} {F : Fm} {vars : Vars} {bs : BS}
theorem letGo_plain {A : Around} {s : Shared} {I : Addr} {T : String} {vs : Array Value} {t : Expr} {v : Value} {E : Value → Shared → Prop} {P : Unit → Shared → Prop} (ho : ∃ o, s.heap.get? I = some o ∧ o.cls = .type T ∧ o.data = .fields vs)
    (hT : ["enumerate", "zip", "dict_itemiterator", "dict_reverseitemiterator", "odict_iterator", "itertools.zip_longest", "itertools.pairwise"].contains T = false) (hP : P () s) : wpAny C.M A (letOwnedTupleGo t (.ref I) v) P E s := by
  obtain ⟨o, h1, h2, h3⟩ := ho
  have key : ∀ a, wpAny C.M A (do
      let o ← load I
      match o.cls, o.data with
      | .type n, .fields vs =>
        if ["enumerate", "zip", "dict_itemiterator", "dict_reverseitemiterator", "odict_iterator", "itertools.zip_longest", "itertools.pairwise"].contains n && vs[0]? == some (rawInt a) then do
          rule "for.unpacks-the-owned-tuple"
          updateField I 0 .none
      | _, _ => pure ()) P E s := by
    intro a
    refine wpAny_bind (wpAny_load h1 ?_)
    rw [h2, h3]
    simp only [hT, Bool.false_and, Bool.false_eq_true, if_false]
    exact wpAny_pure hP
  have key2 : wpAny C.M A (letOwnedTupleGo (.Tuple [] default ⟨0, 0, 0, 0⟩) (.ref I) v) P E s := by
    cases v with
    | ref a => exact key a
    | _ => exact wpAny_pure hP
  clear key
  cases t <;> first | exact key2 | exact wpAny_pure hP
theorem Itr_list {ax I : Addr} {vs : List Value} {xs : List D} {n : Nat} : Itr C [I] I xs (fun _ => True) (fun i φ h => h.IsListIter I ax i ∧ φ ax = some (listOf vs.toArray n) ∧ Reps φ C.β vs xs) where
  frame := fun i φ φ' h h' ⟨h1, h2, h3⟩ le hp => by
    obtain ⟨o, g1, g2⟩ := h1
    exact ⟨⟨o, (hp I (List.mem_singleton.mpr rfl)).trans g1, g2⟩, le _ _ h2, h3.mono le⟩
  item := fun i φ d A s target E P hA _ ⟨h1, h2, h3⟩ hfro hφ hx hP => by
    obtain ⟨v, hv, hr⟩ := h3.get hx
    refine wpAny_pyNext_list_item h1 (IsListOf (hfro _ _ h2)) (by simpa using hv) fun h' hit hb => ?_
    refine ⟨v, rfl, ?_⟩
    obtain ⟨o, g1, g2, g3⟩ := id hit
    refine letGo_plain ⟨o, g1, g2, g3⟩ (by decide) (hP v h' s.toks (fun b o m e => hb.extBut b o (fun q => m (List.mem_singleton.mpr q)) e) ⟨hit, h2, h3⟩ (fun a m => ?_) (.inl hr))
    obtain rfl := List.mem_singleton.mp m
    exact ⟨o, (), g1, .inl ⟨_, g3⟩⟩
  done := fun i φ A s E P hA ⟨h1, h2, h3⟩ hfro hφ hx hP => by
    refine wpAny_pyNext_list_end hA h1 (IsListOf (hfro _ _ h2)) ?_ fun h' hb => ⟨rfl, hP h' s.toks fun b o m e => hb b o (fun q => m (List.mem_singleton.mpr q)) e⟩
    have e1 := h3.length
    have e2 := List.getElem?_eq_none_iff.mp hx
    simp; lia
  self := fun i φ A s E P ⟨h1, _⟩ hP => wpAny_pyIter_listiter h1 hP
theorem ItOk_list {ds : List D} : ItOk C (.val (.list ds)) ds :=
  ⟨fun n F A env Ψ φ ρ vars bs s v hA X h => by
    obtain ⟨a, vs, n, rfl, h1, h2⟩ := Rep.list_inv h
    · skip
      refine wpAny_pyIter_list (IsListOf (X.G.fro _ _ h1)) ?_
      refine ⟨[s.heap.objs.size], s.heap.objs.size, _, rfl, ⟨_, s.toks, rfl, fun b o e => Heap.get?_push_of_some _ e⟩, Itr_list (ax := a) (vs := vs) (n := n), ⟨⟨_, Heap.get?_push_size _ rfl, rfl, rfl⟩, h1, h2⟩, fun b m => ?_⟩
      obtain rfl := List.mem_singleton.mp m
      exact ⟨get?_size, ⟨_, (), Heap.get?_push_size _ rfl, .inl ⟨_, rfl⟩⟩⟩⟩
noncomputable def rangeI (a b c : Int) : List Int := (List.range (Builtin.Range.rangeSize a b c).toNat).map fun (i : Nat) => a + (i : Int) * c
theorem Itr_range {I : Addr} {a c : Int} {n : Nat} : Itr C [I] I ((List.range n).map fun (i : Nat) => D.int (a + (i : Int) * c)) (fun _ => True) (fun i φ h => i ≤ n ∧ IsRangeIter h I (a + (i : Nat) * c) ((n : Int) - (i : Nat)) c) where
  frame := fun i φ φ' h h' ⟨h0, h1⟩ le hp => ⟨h0, (hp I (List.mem_singleton.mpr rfl)).trans h1⟩
  item := fun i φ d A s target E P hA _ ⟨h0, h1⟩ hfro hφ hx hP => by
    have hlt : i < n := by
      have := (List.getElem?_eq_some_iff.mp hx).1
      simpa using this
    have hd : d = D.int (a + (i : Int) * c) := by
      rw [List.getElem?_map, List.getElem?_range hlt] at hx
      simpa using hx.symm
    refine wpAny_pyNext_range_item h1 (by omega) fun h' hit hb => ?_
    refine ⟨_, rfl, ?_⟩
    refine letGo_plain (T := "range_iterator") (s := { s with heap := h', toks := s.toks + 1 }) ⟨_, hit, rfl, rfl⟩ (by decide) (hP _ h' (s.toks + 1) (fun b o m e => hb.extBut b o (fun q => m (List.mem_singleton.mpr q)) e) ⟨hlt, ?_⟩ (fun b m => ?_) (.inl (hd ▸ .int _ _)))
    · have e1 : a + ((i + 1 : Nat) : Int) * c = a + (i : Int) * c + c := by rw [Int.natCast_add, Int.add_mul]; simp [Int.add_assoc]
      have e2 : (n : Int) - ((i + 1 : Nat) : Int) = (n : Int) - (i : Int) - 1 := by lia
      rw [e1, e2]; exact hit
    · obtain rfl := List.mem_singleton.mp m
      exact ⟨_, (), hit, .inl ⟨_, rfl⟩⟩
  done := fun i φ A s E P hA ⟨h0, h1⟩ hfro hφ hx hP => by
    have e2 := List.getElem?_eq_none_iff.mp hx
    simp only [List.length_map, List.length_range] at e2
    exact wpAny_pyNext_range_end hA h1 (by omega) fun h' hb => ⟨rfl, hP h' s.toks fun b o m e => hb b o (fun q => m (List.mem_singleton.mpr q)) e⟩
  self := fun i φ A s E P ⟨_, h1⟩ hP => wpAny_pyIter_rangeiter h1 hP
theorem rangeSize_bounds {a b c : Int} (ha : -(2 ^ 40) ≤ a ∧ a ≤ 2 ^ 40) (hb : -(2 ^ 40) ≤ b ∧ b ≤ 2 ^ 40) (hc : c ≠ 0) : 0 ≤ Builtin.Range.rangeSize a b c ∧ Builtin.Range.rangeSize a b c ≤ 2 ^ 41 + 1 := by
  unfold Builtin.Range.rangeSize
  split
  · split
    · have h1 : 0 ≤ b - a - 1 := by (clear ha; lia)
      have h2 := Int.ediv_nonneg h1 (by lia : 0 ≤ c)
      have h3 := Int.ediv_le_self c h1
      omega
    · lia
  · split
    · have h1 : 0 ≤ a - b - 1 := by (clear ha; lia)
      have h2 := Int.ediv_nonneg h1 (by (clear hc; lia) : 0 ≤ -c)
      have h3 := Int.ediv_le_self (-c) h1
      omega
    · lia
theorem small_of {a b c : Int} (ha : -(2 ^ 40) ≤ a ∧ a ≤ 2 ^ 40) (hb : -(2 ^ 40) ≤ b ∧ b ≤ 2 ^ 40) (hc : -(2 ^ 40) ≤ c ∧ c ≤ 2 ^ 40) (h0 : c ≠ 0) : Builtin.Range.small a b c = true := by
  have h := rangeSize_bounds ha hb h0
  have fits : ∀ x : Int, -(2 ^ 50) ≤ x → x ≤ 2 ^ 50 → Builtin.Range.rangeFitsLong x = true := fun x h1 h2 => by
    unfold Builtin.Range.rangeFitsLong
    simp; lia
  unfold Builtin.Range.small
  simp only [Bool.and_eq_true, Bool.or_eq_true]
  refine ⟨⟨⟨⟨fits _ (by lia) (by lia), fits _ (by lia) (by lia)⟩, fits _ (by lia) (by lia)⟩, fits _ (by lia) (by lia)⟩, .inr ?_⟩
  split
  · exact fits _ (by lia) (by lia)
  · exact fits _ (by lia) (by (clear h0; lia))
theorem ItOk_range {a b c : Int} (ha : -(2 ^ 40) ≤ a ∧ a ≤ 2 ^ 40) (hb : -(2 ^ 40) ≤ b ∧ b ≤ 2 ^ 40) (hc : -(2 ^ 40) ≤ c ∧ c ≤ 2 ^ 40) (h0 : c ≠ 0) : ItOk C (.val (.range a b c)) ((rangeI a b c).map D.int) :=
  ⟨fun n F A env Ψ φ ρ vars bs s v hA X h => by
    obtain ⟨r, t, u, v, rfl, h1⟩ := Rep.range_inv h
    · skip
      refine wpAny_pyIter_range (X.G.fro _ _ h1) (small_of ha hb hc h0) ?_
      have e : (rangeI a b c).map D.int = (List.range (Builtin.Range.rangeSize a b c).toNat).map fun (i : Nat) => D.int (a + (i : Int) * c) := by unfold rangeI; rw [List.map_map]; rfl
      rw [e]
      have h2 := (rangeSize_bounds ha hb h0).1
      refine ⟨[s.heap.objs.size], s.heap.objs.size, _, rfl, ⟨_, s.toks, rfl, fun b o e => Heap.get?_push_of_some _ e⟩, Itr_range (a := a) (c := c), ⟨Nat.zero_le _, ?_⟩, fun b m => ?_⟩
      · have e3 : ((Builtin.Range.rangeSize a b c).toNat : Int) - ((0 : Nat) : Int) = Builtin.Range.rangeSize a b c := by lia
        have e4 : a + ((0 : Nat) : Int) * c = a := by simp
        rw [e3, e4]
        exact Heap.get?_push_size _ rfl
      · obtain rfl := List.mem_singleton.mp m
        exact ⟨get?_size, ⟨_, (), Heap.get?_push_size _ rfl, .inl ⟨_, rfl⟩⟩⟩⟩
end
end Mine
end
section
set_option maxRecDepth 100000
set_option linter.unusedVariables false
namespace Mine
open PySem PySem.W PySem.Calls PyProof.Rows PySem.Spec
section
variable {C : Cx} {F : Fm} {vars : Vars} {bs : BS}
/-- what the frame may write -/
noncomputable def Wr (F : Fm) (env : Env) (ρ : Str → Option Value) (vars : Vars) (a : Addr) : Prop :=
  a = env.locals ∨ (∃ x ∈ F.ow, env.cells.lookup x = some a) ∨ ∃ x ds, vars.lookup x = some (.mu ds) ∧ ρ x = some (.ref a)
open Classical in
noncomputable def prot (Ψ : Store) (W : Addr → Prop) (h : Heap) : Store := fun b => if W b then h.get? b else Ψ b
theorem prot_in {Ψ : Store} {W : Addr → Prop} {h : Heap} {b : Addr} (m : W b) : prot Ψ W h b = h.get? b := by unfold prot; rw [if_pos m]
theorem prot_out {Ψ : Store} {W : Addr → Prop} {h : Heap} {b : Addr} (m : ¬ W b) : prot Ψ W h b = Ψ b := by unfold prot; rw [if_neg m]
theorem le_prot {Ψ φ : Store} {s : Shared} {W : Addr → Prop} (G : GSt C Ψ φ bs s) : Ψ.Le (prot Ψ W s.heap) := fun b o e => by
  by_cases m : W b
  · rw [prot_in m]; exact G.pro b o e
  · rw [prot_out m]; exact e
theorem St.wr_phi {env : Env} {Ψ φ : Store} {ρ : Str → Option Value} {s : Shared} (X : St C F env Ψ φ ρ vars bs s) {a : Addr} (m : Wr F env ρ vars a) : φ a = none ∧ a ≠ C.β ∧ ∃ o, s.heap.get? a = some o := by
  rcases m with rfl | ⟨x, hx, e⟩ | ⟨x, ds, e, e2⟩
  · obtain ⟨m, ⟨o, es, ep, h1, _⟩, _⟩ := X.F.ns
    exact ⟨X.F.loc.1, X.F.loc.2.2, o, h1⟩
  · obtain ⟨c, v, h1, ⟨o, h2, _⟩, h3, h4, h5, _⟩ := X.F.own x hx
    rw [h1] at e; cases e
    exact ⟨h3, h5, o, h2⟩
  · obtain ⟨b, vs, n, h1, h2, h3, h4, h5, h6⟩ := X.F.mu x ds e
    rw [h1] at e2; cases e2
    exact ⟨h4, h6, _, h2⟩
theorem St.prot {env : Env} {Ψ φ : Store} {ρ : Str → Option Value} {s : Shared} (X : St C F env Ψ φ ρ vars bs s) : GSt C (prot Ψ (Wr F env ρ vars) s.heap) φ bs s := by
  refine ⟨X.G.base, X.G.fro, fun b o e => ?_, fun b o e => ?_, X.G.bex, fun p e => ?_, X.G.same⟩
  · by_cases m : Wr F env ρ vars b
    · rw [prot_in m] at e; exact e
    · rw [prot_out m] at e; exact X.G.pro b o e
  · rw [prot_out (fun m => by rw [(X.wr_phi m).1] at e; cases e)]
    exact X.G.sep b o e
  · obtain ⟨h1, h2, h3⟩ := X.G.box p e
    exact ⟨h1, h2, by rw [prot_out (fun m => (X.wr_phi m).2.1 rfl)]; exact h3⟩
theorem St.back {env : Env} {Ψ φ φ' : Store} {ρ : Str → Option Value} {bs' : BS} {s s' : Shared} (X : St C F env Ψ φ ρ vars bs s) (G : GSt C (Mine.prot Ψ (Wr F env ρ vars) s.heap) φ' bs' s') (le : φ.Le φ') : St C F env Ψ φ' ρ vars bs' s' := by
  have same : ∀ a o, Wr F env ρ vars a → s.heap.get? a = some o → s'.heap.get? a = some o ∧ φ' a = none := fun a o m e => by
    have h1 : Mine.prot Ψ (Wr F env ρ vars) s.heap a = some o := by rw [prot_in m]; exact e
    refine ⟨G.pro a o h1, ?_⟩
    cases q : φ' a with
    | none => rfl
    | some o' => rw [G.sep a o' q] at h1; cases h1
  refine ⟨G.unprotect (le_prot X.G), X.F.sc, X.F.kind, X.F.glob, X.F.blt, ?_, ?_, ?_, ?_, X.F.fr, ?_, ?_, X.F.dis⟩
  · obtain ⟨m, ⟨o, es, ep, h1, h2, h3⟩, h4⟩ := X.F.ns
    exact ⟨m, ⟨o, es, ep, (same _ o (.inl rfl) h1).1, h2, h3⟩, h4⟩
  · obtain ⟨m, ⟨o, es, ep, h1, h2, h3⟩, h4⟩ := X.F.ns
    exact ⟨(same _ o (.inl rfl) h1).2, X.F.loc.2⟩
  · intro x v e1 e2
    obtain ⟨c, h1, o, h2, h3⟩ := X.F.cell x v e1 e2
    refine ⟨c, h1, o, ?_, h3⟩
    by_cases hx : x ∈ F.ow
    · exact (same c o (.inr (.inl ⟨x, hx, h1⟩)) h2).1
    · obtain ⟨o', h4⟩ := X.F.fr x c h1 hx
      have h5 := X.G.pro c o' h4
      rw [h2] at h5; cases h5
      exact (G.unprotect (le_prot X.G)).pro c o h4
  · intro x hx
    obtain ⟨c, v, h1, ⟨o, h2, h3⟩, h4, h5⟩ := X.F.own x hx
    obtain ⟨g1, g2⟩ := same c o (.inr (.inl ⟨x, hx, h1⟩)) h2
    exact ⟨c, v, h1, ⟨o, g1, h3⟩, g2, h5⟩
  · intro x d e
    obtain ⟨v, h1, h2⟩ := X.F.val x d e
    exact ⟨v, h1, h2.mono le⟩
  · intro x ds e
    obtain ⟨a, vs, n, h1, h2, h3, h4, h5⟩ := X.F.mu x ds e
    obtain ⟨g1, g2⟩ := same a _ (.inr (.inr ⟨x, ds, e, h1⟩)) h2
    exact ⟨a, vs, n, h1, g1, h3.mono le, g2, h5⟩
/-- what came out of a call, in the caller's eyes -/
theorem OV.back {env : Env} {Ψ φ φ' : Store} {ρ : Str → Option Value} {bs' : BS} {s s' : Shared} {v : Value} {r : R} (X : St C F env Ψ φ ρ vars bs s) (G : GSt C (Mine.prot Ψ (Wr F env ρ vars) s.heap) φ' bs' s') (h : OV C (Mine.prot Ψ (Wr F env ρ vars) s.heap) φ' s' v r) :
    RV C env Ψ φ' ρ vars s' v r := by
  cases r with
  | val d => exact h
  | bor x ds => exact h.elim
  | own ds =>
    obtain ⟨a, vs, n, rfl, h1, h2, h3, h4, h5⟩ := h
    refine ⟨a, ⟨vs, n, rfl, h1, h2, h3, ?_, h5⟩, fun x es e q => ?_⟩
    · cases q : Ψ a with
      | none => rfl
      | some o => rw [le_prot X.G a o q] at h4; cases h4
    · obtain ⟨b, us, m, g1, g2, _⟩ := X.F.mu x es e
      rw [g1] at q; cases q
      rw [prot_in (.inr (.inr ⟨x, es, e, g1⟩)), g2] at h4; cases h4
/-- a global def of the text is called -/
structure IsFn (C : Cx) (x : Str) (f : Addr) (o : Obj) (fd : FuncData) : Prop where
  glob : C.mg x = some (.ref f)
  obj : C.H.get? f = some o
  data : o.data = .func fd
theorem evalArgs_at {A : Around} {pos : Pos} {fv : Value} {e : Expr} {es : List Expr} {env : Env} {Ψ φ : Store} {ρ : Str → Option Value} {s : Shared} {Q : BS → List D → Prop} {P : Args → Shared → Prop} (hA : AOk F.n A) (X : St C F env Ψ φ ρ vars bs s) (h : EvD C F vars bs (e :: es) Q) (hs : notStar e = true)
    (hP : ∀ vs s' φ' bs' ds, φ.Le φ' → St C F env Ψ φ' ρ vars bs' s' → Reps φ' C.β vs ds → Q bs' ds → P ⟨vs, []⟩ s') : wpAny C.M A (evalArgs fv true (backTo pos (starEach (e :: es) env)) []) P (fun _ _ => False) s := by
  have run := h.run A env Ψ φ ρ s pos hA X
  rw [starEach_plain hs] at run ⊢
  exact Calls.evalArgs_plain (wpAny_mono run (fun vs s' ⟨φ', bs', ds, le, X', hr, hq⟩ => hP vs s' φ' bs' ds le X' hr hq) fun _ _ x => x)
theorem global_at {A : Around} {x : Str} {pos : Pos} {v : Value} {env : Env} {Ψ φ : Store} {ρ : Str → Option Value} {s : Shared} {P : Value → Shared → Prop} {E : Value → Shared → Prop} (ok : C.Ok) (X : St C F env Ψ φ ρ vars bs s) (hf : C.mg x = some v) (hk : F.sc.names.lookup x = some .globalImplicit)
    (hd : (x == ("__debug__" : Str)) = false) (h : P v s) : wpAny C.M A (eval (.Name x pos) env) P E s :=
  Calls.Name_function_global (by rw [X.F.sc]; exact X.F.kind) (by show env.scope.names.lookup x = _; rw [X.F.sc]; exact hk)
    (Calls.loadGlobal_global (by rw [X.F.glob]; exact ok.g.keeps X.G.keepH) hf h) hd
theorem builtin_at {A : Around} {x : Str} {pos : Pos} {v : Value} {env : Env} {Ψ φ : Store} {ρ : Str → Option Value} {s : Shared} {P : Value → Shared → Prop} {E : Value → Shared → Prop} (ok : C.Ok) (X : St C F env Ψ φ ρ vars bs s) (hf : C.mg x = none) (hv : bootBuiltins x = some v) (hn : x ≠ "__name__") (hk : F.sc.names.lookup x = some .globalImplicit)
    (hd : (x == ("__debug__" : Str)) = false) (h : P v s) : wpAny C.M A (eval (.Name x pos) env) P E s :=
  Calls.Name_function_global (by rw [X.F.sc]; exact X.F.kind) (by show env.scope.names.lookup x = _; rw [X.F.sc]; exact hk)
    (Calls.loadGlobal_builtin (by rw [X.F.glob]; exact ok.g.keeps X.G.keepH) hf (by rw [X.F.blt]; exact ok.b.keeps X.G.keepH) ((ok.builtins x hn).trans hv) h) hd
theorem Ev_global {x : Str} {pos : Pos} {i : Int} {t : Tok} {Q : BS → R → Prop} (ok : C.Ok) (hf : C.mg x = some (.int i t)) (hk : F.sc.names.lookup x = some .globalImplicit) (hd : (x == ("__debug__" : Str)) = false) (h : Q bs (.val (.int i))) : Ev C F vars bs (.Name x pos) Q :=
  ⟨fun A env Ψ φ ρ s hA X => global_at ok X hf hk hd ⟨φ, bs, .val _, Store.Le.refl φ, X, Rep.int _ _, h⟩⟩
theorem call_in {A : Around} {f : Value} {vs : List Value} {ds : List D} {n : Nat} {env : Env} {Ψ φ : Store} {ρ : Str → Option Value} {s : Shared} {Q : BS → R → Prop} (hA : AOk F.n A) (hn : n ≤ F.n) (X : St C F env Ψ φ ρ vars bs s) (hr : Reps φ C.β vs ds) (h : Fn C n f ds bs Q) :
    wpAny C.M A (call f vs []) (EvR C F env Ψ φ ρ vars Q) (fun _ _ => False) s :=
  wpAny_mono (wpAny_ofRet (h.run A _ φ s vs (hA.le hn) X.prot hr)) (fun v s' ⟨φ', bs', r, le, G, o, q⟩ => ⟨φ', bs', r, le, X.back G le, o.back X G, q⟩) fun _ _ x => x
end
/-! ### the body of a def -/
noncomputable def cellNames (sc : Scope) : List Str := (sc.names.filter fun p => p.2 == .cell).map (·.1)
noncomputable def argVars (xs : List Str) (ds : List D) : Vars := (xs.zip ds).map fun p => (p.1, .val p.2)
theorem mem_cellsFrom : ∀ (names : List (Str × NameKind)) (n : Nat) (acc : List (Str × Addr)) (x : Str) (c : Addr), (x, c) ∈ cellsFrom n names acc → (x, c) ∈ acc ∨ (x, NameKind.cell) ∈ names
  | [], n, acc, x, c, h => .inl h
  | (y, k) :: r, n, acc, x, c, h => by
    unfold cellsFrom at h
    split at h
    · rename_i hk
      rcases mem_cellsFrom r (n + 1) _ x c h with h | h
      · rcases List.mem_cons.mp h with e | h
        · cases e
          have : k = .cell := by simpa using hk
          subst this
          exact .inr List.mem_cons_self
        · exact .inl h
      · exact .inr (List.mem_cons_of_mem _ h)
    · rcases mem_cellsFrom r n _ x c h with h | h
      · exact .inl h
      · exact .inr (List.mem_cons_of_mem _ h)
theorem bindL_other {kd : Str → Option NameKind} {x : Str} : ∀ {bs : List (Str × Value)} {m : Str → Option Value}, (∀ p ∈ bs, p.1 ≠ x) → bindL kd bs m x = m x
  | [], m, _ => rfl
  | (y, v) :: r, m, h => by
    unfold bindL
    rw [bindL_other (fun p hp => h p (List.mem_cons_of_mem _ hp))]
    split
    · exact if_neg (Ne.symm (h (y, v) List.mem_cons_self))
    · rfl
theorem bindC_other {kd : Str → Option NameKind} {x : Str} : ∀ {bs : List (Str × Value)} {m : Str → Option Value}, (∀ p ∈ bs, p.1 ≠ x) → bindC kd bs m x = m x
  | [], m, _ => rfl
  | (y, v) :: r, m, h => by
    unfold bindC
    rw [bindC_other (fun p hp => h p (List.mem_cons_of_mem _ hp))]
    split
    · rfl
    · exact if_neg (Ne.symm (h (y, v) List.mem_cons_self))
theorem arg_value {kd : Str → Option NameKind} {φ : Store} {β : Addr} {x : Str} {d : D} : ∀ {xs : List Str} {vs : List Value} {ds : List D} {m cm : Str → Option Value}, xs.Nodup → Reps φ β vs ds → (argVars xs ds).lookup x = some (.val d) →
    ∃ v, Rep φ β v d ∧ (kd x = some .local → bindL kd (xs.zip vs) m x = some v) ∧ (kd x ≠ some .local → bindC kd (xs.zip vs) cm x = some v)
  | [], _, _, m, cm, _, _, h => by cases h
  | y :: xs, _, _, m, cm, hnd, .nil, h => by cases h
  | y :: xs, v :: vs, d' :: ds, m, cm, hnd, .cons h1 h2, h => by
    rw [List.nodup_cons] at hnd
    have h' : ((y, Slot.val d') :: argVars xs ds).lookup x = some (.val d) := h
    have hno : ∀ p ∈ xs.zip vs, p.1 ≠ y := fun p hp e => hnd.1 (e ▸ (List.of_mem_zip hp).1)
    by_cases q : x = y
    · subst q
      rw [lookup_self] at h'; cases h'
      refine ⟨v, h1, fun k => ?_, fun k => ?_⟩
      · show bindL kd ((x, v) :: xs.zip vs) m x = _
        unfold bindL
        rw [bindL_other hno, if_pos k]; exact if_pos rfl
      · show bindC kd ((x, v) :: xs.zip vs) cm x = _
        unfold bindC
        rw [bindC_other hno, if_neg k]; exact if_pos rfl
    · rw [lookup_ne q] at h'
      obtain ⟨u, g1, g2, g3⟩ := arg_value (kd := kd) (m := if kd y = some .local then fun z => if z = y then some v else m z else m) (cm := if kd y = some .local then cm else fun z => if z = y then some v else cm z) hnd.2 h2 h'
      exact ⟨u, g1, g2, g3⟩
theorem argVars_mu {xs : List Str} {ds : List D} {x : Str} {es : List D} : (argVars xs ds).lookup x ≠ some (.mu es) := by
  intro h
  induction xs generalizing ds with
  | nil => cases h
  | cons y xs ih =>
    cases ds with
    | nil => cases h
    | cons d ds =>
      have h' : ((y, Slot.val d) :: argVars xs ds).lookup x = some (.mu es) := h
      by_cases q : x = y
      · subst q; rw [lookup_self] at h'; cases h'
      · rw [lookup_ne q] at h'; exact ih h'
noncomputable def RetK (Q : BS → R → Prop) (v : Vars) (b : BS) : Fl → Prop
  | .ret (.val d) => Q b (.val d)
  | .ret (.own ds) => Q b (.own ds)
  | .ret (.bor _ ds) => Q b (.own ds)
  | .next => Q b (.val .none)
  | _ => False
/-- the facts of a def that its contract wants -/
structure DefAt (C : Cx) (f : Addr) (xs : List Str) (body : List Stmt) (sc : Scope) : Prop where
  fd : ∃ o fd, C.H.get? f = some o ∧ o.data = .func fd ∧ fd.scope = sc ∧ fd.body = .stmts body ∧ fd.closure = [] ∧ fd.globals = mainGlobals ∧ fd.builtins = builtinsNs ∧ C.H.CodeRec fd.code fd.qualname ∧
    ∀ s vs, (∀ b o, C.H.get? b = some o → s.heap.get? b = some o) → vs.length = xs.length → BindsTo s fd ⟨vs, []⟩ (xs.zip vs)
noncomputable def scOk (sc : Scope) (xs : List Str) : Bool := decide xs.Nodup && (sc.kind == .function) && !sc.isCoroutine && !sc.isGenerator && (xs.all fun x => sc.names.lookup x == some .local || sc.names.lookup x == some .cell) && ((cellNames sc).all fun x => sc.names.lookup x == some .cell)
theorem Fn_def {C : Cx} {f : Addr} {xs : List Str} {body : List Stmt} {sc : Scope} {n : Nat} {ds : List D} {bs : BS} {Q : BS → R → Prop} (ok : C.Ok) (hf : DefAt C f xs body sc) (hl : ds.length = xs.length) (hsc : scOk sc xs = true)
    (h : Ex C ⟨sc, cellNames sc, n⟩ (argVars xs ds) bs body (RetK Q)) : Fn C (n + 1) (.ref f) ds bs Q :=
  ⟨fun A Ψ φ s vs hA G hr => by
    obtain ⟨o, fd, ho, hd, rfl, hbody, hclo, hglob, hblt, hcd, hbind⟩ := hf.fd
    simp only [scOk, Bool.and_eq_true, decide_eq_true_eq, Bool.not_eq_true', beq_iff_eq] at hsc
    obtain ⟨⟨⟨⟨⟨hnd, hkind⟩, hco⟩, hgen⟩, hx⟩, hcn⟩ := hsc
    have hx' : ∀ x ∈ xs, fd.scope.names.lookup x = some .local ∨ fd.scope.names.lookup x = some .cell := fun x m => by
      have := List.all_eq_true.mp hx x m
      simpa using this
    have hcn' : ∀ x ∈ cellNames fd.scope, fd.scope.names.lookup x = some .cell := fun x m => by
      have := List.all_eq_true.mp hcn x m
      simpa using this
    have hlen : vs.length = xs.length := by rw [hr.length, hl]
    refine codeAny_call_function hA.room (G.keepH _ _ ho) hd hco hgen hbody (hcd.keeps G.keepH) ?_
    refine hbind s vs G.keepH hlen _ _ _ _ ?_
    rw [hclo]
    refine wpAny_newFunctionEnv_cells hkind (fun p hp => ?_) fun env he s₁ I => ?_
    · have hm := (List.of_mem_zip hp).1
      rcases hx' _ hm with e | e
      · exact .inl e
      · exact .inr ⟨e, cellsFrom_some _ _ _ (.inl e)⟩
    have hlim : s₁.heap.NoLimit := (ok.nolimit.keeps G.keepH).keeps I.toInCall.keep
    refine ⟨hlim, codeAny_func ?_⟩
    have esc : env.scope = fd.scope := by rw [he]; rfl
    have ecell : env.cells = cellsFrom (s.heap.objs.size + 1) fd.scope.names [] := by rw [he]; rfl
    have hkd : ∀ x, env.kindOf x = fd.scope.names.lookup x := fun x => by show env.scope.names.lookup x = _; rw [esc]
    have newL : s.heap.get? env.locals = none := get?_ge I.toInCall.fresh
    have newC : ∀ x c, env.cells.lookup x = some c → s.heap.get? c = none := fun x c e => get?_ge (Nat.le_trans I.toInCall.fresh (Nat.le_of_lt (I.above x c (mem_of_lookup e))))
    have bne : ∀ a, s.heap.get? a = none → a ≠ C.β := by
      rintro a e rfl
      obtain ⟨o', e'⟩ := G.bex
      rw [e] at e'; cases e'
    have X : St C ⟨fd.scope, cellNames fd.scope, n⟩ env Ψ φ (fun x => if fd.scope.names.lookup x = some .local then bindL env.kindOf (xs.zip vs) (fun _ => none) x else if fd.scope.names.lookup x = some .cell then bindC env.kindOf (xs.zip vs) (fun _ => none) x else none) (argVars xs ds) bs s₁ := by
      obtain ⟨hh, tk, rfl⟩ := I.toInCall.same
      refine ⟨G.grow I.toInCall.keep, esc, hkind, by rw [he]; exact hglob, by rw [he]; exact hblt, ⟨_, I.toInCall.ns, fun x v e1 e2 => ?_⟩, ⟨(G.new newL).1, (G.new newL).2, bne _ newL⟩, fun x v e1 e2 => ?_, fun x m => ?_, fun x c e1 e2 => ?_, fun x d e => ?_, fun x es e => (argVars_mu e).elim, fun x y es _ e => (argVars_mu e).elim⟩
      · rw [if_pos e2] at e1; exact e1
      · rcases e2 with e2 | e2
        · have hne : ¬ fd.scope.names.lookup x = some .local := by rw [e2]; decide
          rw [if_neg hne, if_pos e2] at e1
          have hs : (env.cells.lookup x).isSome = true := by rw [ecell]; exact cellsFrom_some _ _ _ (.inl e2)
          obtain ⟨c, hc⟩ := Option.isSome_iff_exists.mp hs
          exact ⟨c, hc, e1 ▸ I.cell x c hc⟩
        · have hne : ¬ fd.scope.names.lookup x = some .local := by rw [e2]; decide
          have hne2 : ¬ fd.scope.names.lookup x = some .cell := by rw [e2]; decide
          rw [if_neg hne, if_neg hne2] at e1; cases e1
      · have e2 := hcn' x m
        have hs : (env.cells.lookup x).isSome = true := by rw [ecell]; exact cellsFrom_some _ _ _ (.inl e2)
        obtain ⟨c, hc⟩ := Option.isSome_iff_exists.mp hs
        refine ⟨c, _, hc, I.cell x c hc, (G.new (newC x c hc)).1, (G.new (newC x c hc)).2, bne _ (newC x c hc), fun y hy e => hy (name_of_addr I.apart (mem_of_lookup e) (mem_of_lookup hc))⟩
      · have hm := mem_of_lookup e1
        rw [ecell] at hm
        rcases mem_cellsFrom _ _ _ _ _ hm with h0 | h0
        · cases h0
        · exact (e2 (List.mem_map.mpr ⟨_, List.mem_filter.mpr ⟨h0, by simp⟩, rfl⟩)).elim
      · obtain ⟨v, g1, g2, g3⟩ := arg_value (kd := env.kindOf) (m := fun _ => none) (cm := fun _ => none) hnd hr e
        refine ⟨v, ?_, g1⟩
        have hxm : x ∈ xs := by
          have := mem_of_lookup e
          obtain ⟨p, hp, e3⟩ := List.mem_map.mp this
          cases e3
          exact (List.of_mem_zip hp).1
        rcases hx' x hxm with e3 | e3
        · simp only [e3, if_true]; exact g2 ((hkd x).trans e3)
        · have hne : ¬ fd.scope.names.lookup x = some .local := by rw [e3]; decide
          simp only [if_neg hne, e3, if_true]
          exact g3 (by rw [hkd x]; exact hne)
    refine wpAny_mono (h.run _ env Ψ φ _ s₁ hA.deeper X) (fun fl s' ⟨φ', ρ', vars', bs', f', le, X', hv, hq⟩ => ?_) fun _ _ x => x.elim
    have none' : Q bs' (.val .none) → FnR C Ψ φ Q .none s' := fun q => ⟨φ', bs', .val .none, le, X'.G, Rep.none, q⟩
    cases fl with
    | next => cases f' <;> first | exact hv.elim | exact none' hq
    | brk => cases f' <;> first | exact hv.elim | exact hq.elim
    | cont => cases f' <;> first | exact hv.elim | exact hq.elim
    | ret v =>
      cases f' with
      | ret r =>
        cases r with
        | val d => exact ⟨φ', bs', .val d, le, X'.G, hv, hq⟩
        | own es => exact ⟨φ', bs', .own es, le, X'.G, ⟨_, hv.choose_spec.1⟩, hq⟩
        | bor x es =>
          obtain ⟨h1, h2⟩ := hv
          obtain ⟨a, us, m, g1, g2⟩ := X'.F.mu x es h2
          rw [h1] at g1; cases g1
          exact ⟨φ', bs', .own es, le, X'.G, ⟨a, us, m, rfl, g2⟩, hq⟩
      | _ => exact hv.elim⟩
end Mine
end
section
set_option maxRecDepth 100000
set_option linter.unusedVariables false
namespace Mine
open PySem PySem.W PySem.Calls PyProof.Rows PySem.Spec
section
variable {C : Cx} {F : Fm} {vars : Vars} {bs : BS}
/-- a list of nobody's is changed -/
theorem St.updFree {env : Env} {Ψ φ : Store} {ρ : Str → Option Value} {s : Shared} {a : Addr} {vs : Array Value} {n : Nat} {h : Heap} {tk : Nat} (X : St C F env Ψ φ ρ vars bs s) (ha : s.heap.get? a = some (listOf vs n)) (hφ : φ a = none) (hΨ : Ψ a = none) (hb : a ≠ C.β)
    (hm : ∀ x es, vars.lookup x = some (.mu es) → ρ x ≠ some (.ref a)) (hk : ∀ b o, b ≠ a → s.heap.get? b = some o → h.get? b = some o) : St C F env Ψ φ ρ vars bs { s with heap := h, toks := tk } := by
  have ne : ∀ b o, s.heap.get? b = some o → (∀ vs n, o ≠ listOf vs n) → h.get? b = some o := fun b o e hd => hk b o (by rintro rfl; rw [ha] at e; cases e; exact hd _ _ rfl) e
  refine ⟨X.G.upd hk hφ hΨ hb, X.F.sc, X.F.kind, X.F.glob, X.F.blt, ?_, X.F.loc, ?_, ?_, X.F.fr, X.F.val, ?_, X.F.dis⟩
  · obtain ⟨m, ⟨o, es, ep, h1, h2, h3⟩, h4⟩ := X.F.ns
    exact ⟨m, ⟨o, es, ep, ne _ _ h1 (fun _ _ q => by subst q; cases h2), h2, h3⟩, h4⟩
  · intro x v e1 e2
    obtain ⟨c, h1, o, h2, h3⟩ := X.F.cell x v e1 e2
    exact ⟨c, h1, o, ne _ _ h2 (fun _ _ q => by subst q; cases h3), h3⟩
  · intro x hx
    obtain ⟨c, v, h1, ⟨o, h2, h3⟩, h4⟩ := X.F.own x hx
    exact ⟨c, v, h1, ⟨o, ne _ _ h2 (fun _ _ q => by subst q; cases h3), h3⟩, h4⟩
  · intro x ds e
    obtain ⟨b, us, m, h1, h2, h3⟩ := X.F.mu x ds e
    exact ⟨b, us, m, h1, hk _ _ (by rintro rfl; exact hm x ds e h1) h2, h3⟩
structure TsL (C : Cx) (F : Fm) (vars : Vars) (bs : BS) (es : List Expr) (Q : BS → Bool → Prop) : Prop where
  run : ∀ A env Ψ φ ρ s, AOk F.n A → St C F env Ψ φ ρ vars bs s → wpAny C.M A (forIn es true fun c r => if r = true then do let ok ← isTrue c env (eval c env); pure (ForInStep.yield ok) else pure (ForInStep.yield r)) (TsR C F env Ψ φ ρ vars Q) (fun _ _ => False) s
theorem TsL_nil {Q : BS → Bool → Prop} (h : Q bs true) : TsL C F vars bs [] Q := ⟨fun A env Ψ φ ρ s hA X => wpAny_tests_nil ⟨φ, bs, Store.Le.refl φ, X, h⟩⟩
theorem tests_false {A : Around} {env : Env} {s : Shared} {E : Value → Shared → Prop} {P : Bool → Shared → Prop} (h : P false s) : ∀ es : List Expr, wpAny C.M A (forIn es false fun c r => if r = true then do let ok ← isTrue c env (eval c env); pure (ForInStep.yield ok) else pure (ForInStep.yield r)) P E s
  | [] => wpAny_pure h
  | e :: es => by
    rw [List.forIn_cons]
    simp only [Bool.false_eq_true, if_false]
    exact wpAny_bind (wpAny_pure (tests_false h es))
theorem TsL_cons {e : Expr} {es : List Expr} {Q : BS → Bool → Prop} (h : Ts C F vars bs e fun b t => (t = true → TsL C F vars b es Q) ∧ (t = false → Q b false)) : TsL C F vars bs (e :: es) Q :=
  ⟨fun A env Ψ φ ρ s hA X => by
    rw [List.forIn_cons]
    simp only [if_true]
    refine wpAny_bind (wpAny_bind (wpAny_mono (h.run A env Ψ φ ρ s hA X) (fun t s1 ⟨φ1, b1, le1, X1, k1⟩ => wpAny_pure ?_) fun _ _ x => x))
    cases t with
    | true => exact wpAny_mono ((k1.1 rfl).run A env Ψ φ1 ρ s1 hA X1) (fun t s2 ⟨φ2, b2, le2, X2, k2⟩ => ⟨φ2, b2, le1.trans le2, X2, k2⟩) fun _ _ x => x
    | false => exact tests_false ⟨φ1, b1, le1, X1, k1.2 rfl⟩ es⟩
/-! ### the frame of a comprehension -/
noncomputable def relS (csc sc : Scope) : Scope := { csc with names := csc.names.map fun (n, k) => if (k == .free && sc.kind == .function && sc.names.lookup n == some .cell) then (n, .cell) else (n, k) }
noncomputable def compFm (csc : Scope) (F : Fm) : Fm := ⟨relS csc F.sc, cellNames csc, F.n⟩
noncomputable def isValAt (vars : Vars) (x : Str) : Bool := match vars.lookup x with
  | some (.val _) => true
  | _ => false
noncomputable def capt (csc : Scope) (vars : Vars) : Vars := vars.filter fun p => csc.names.lookup p.1 == some .free && isValAt vars p.1
theorem capt_lookup {csc : Scope} {vars : Vars} {x : Str} {sl : Slot} (h : (capt csc vars).lookup x = some sl) : csc.names.lookup x = some .free ∧ vars.lookup x = some sl ∧ ∃ d, sl = .val d := by
  unfold capt at h
  have key : ∀ (p : Str → Bool) (l : Vars), (l.filter fun q => p q.1).lookup x = some sl → p x = true ∧ l.lookup x = some sl := by
    intro p l
    induction l with
    | nil => intro h; cases h
    | cons q l ih =>
      obtain ⟨y, s2⟩ := q
      intro h
      rw [List.filter_cons] at h
      split at h
      · rename_i hp
        by_cases e : x = y
        · subst e; rw [lookup_self] at h; cases h; exact ⟨hp, lookup_self⟩
        · rw [lookup_ne e] at h ⊢; exact ih h
      · rename_i hp
        obtain ⟨h1, h2⟩ := ih h
        have e : x ≠ y := by rintro rfl; exact hp h1
        exact ⟨h1, by rw [lookup_ne e]; exact h2⟩
  obtain ⟨h1, h2⟩ := key (fun y => csc.names.lookup y == some .free && isValAt vars y) vars h
  simp only [Bool.and_eq_true, beq_iff_eq] at h1
  refine ⟨h1.1, h2, ?_⟩
  have := h1.2
  unfold isValAt at this
  rw [h2] at this
  cases sl with
  | val d => exact ⟨d, rfl⟩
  | mu ds => cases this
/-- the names that a comprehension takes from around are bound there, in cells -/
noncomputable def freeOk (csc : Scope) (F : Fm) (vars : Vars) : Bool := csc.names.all fun p => p.2 != .free || ((vars.lookup p.1).isSome && (F.sc.names.lookup p.1 == some .cell || F.sc.names.lookup p.1 == some .free) && csc.names.lookup p.1 == some .free)
noncomputable def cscOk (csc : Scope) : Bool := csc.kind == .function && (csc.names.all fun p => p.2 != .local || csc.names.lookup p.1 == some .local) && ((cellNames csc).all fun x => csc.names.lookup x == some .cell)
theorem closure_at {env : Env} {f : Str × NameKind → List (Str × Addr) → Sem (ForInStep (List (Str × Addr)))} (hf : ∀ n k cs, f (n, k) cs = if k == .free then (do let c ← cellOf env n; pure (.yield ((n, c) :: cs))) else pure (.yield cs)) :
    ∀ (names : List (Str × NameKind)) (acc : List (Str × Addr)), (∀ p ∈ names, p.2 = .free → ∃ c, env.cells.lookup p.1 = some c) →
      ∃ cl, forIn names acc f = pure cl ∧ (∀ x c, (x, c) ∈ cl → (x, c) ∈ acc ∨ ((x, NameKind.free) ∈ names ∧ env.cells.lookup x = some c)) ∧ (∀ x c, (x, c) ∈ acc → (x, c) ∈ cl) ∧ (∀ x, (x, NameKind.free) ∈ names → ∃ c, (x, c) ∈ cl)
  | [], acc, _ => ⟨acc, rfl, fun x c h => .inl h, fun x c h => h, fun x h => nomatch h⟩
  | (n, k) :: r, acc, h => by
    rw [List.forIn_cons, hf]
    by_cases hk : (k == NameKind.free) = true
    · rw [if_pos hk]
      have hk' : k = .free := by simpa using hk
      subst hk'
      obtain ⟨c, hc⟩ := h _ List.mem_cons_self rfl
      have e1 : cellOf env n = pure c := by unfold cellOf; rw [hc]
      obtain ⟨cl, g1, g2, g3, g4⟩ := closure_at hf r ((n, c) :: acc) fun p hp => h p (List.mem_cons_of_mem _ hp)
      refine ⟨cl, by rw [e1]; exact g1, fun x d hx => ?_, fun x d hx => g3 x d (List.mem_cons_of_mem _ hx), fun x hx => ?_⟩
      · rcases g2 x d hx with h1 | h1
        · rcases List.mem_cons.mp h1 with e | h1
          · cases e; exact .inr ⟨List.mem_cons_self, hc⟩
          · exact .inl h1
        · exact .inr ⟨List.mem_cons_of_mem _ h1.1, h1.2⟩
      · rcases List.mem_cons.mp hx with e | hx
        · cases e; exact ⟨c, g3 _ _ List.mem_cons_self⟩
        · exact g4 x hx
    · rw [if_neg hk]
      obtain ⟨cl, g1, g2, g3, g4⟩ := closure_at hf r acc fun p hp => h p (List.mem_cons_of_mem _ hp)
      refine ⟨cl, g1, fun x d hx => ?_, g3, fun x hx => ?_⟩
      · rcases g2 x d hx with h1 | h1
        · exact .inl h1
        · exact .inr ⟨List.mem_cons_of_mem _ h1.1, h1.2⟩
      · rcases List.mem_cons.mp hx with e | hx
        · cases e; exact absurd rfl hk
        · exact g4 x hx
theorem closureFor_at {csc : Scope} {env : Env} (h : ∀ p ∈ csc.names, p.2 = .free → ∃ c, env.cells.lookup p.1 = some c) :
    ∃ cl, closureFor csc env = pure cl ∧ (∀ x c, (x, c) ∈ cl → (x, NameKind.free) ∈ csc.names ∧ env.cells.lookup x = some c) ∧ (∀ x, (x, NameKind.free) ∈ csc.names → ∃ c, (x, c) ∈ cl) := by
  obtain ⟨cl, g1, g2, g3, g4⟩ := closure_at (env := env) (f := fun x cs => match x with | (n, k) => if k == .free then (do let c ← cellOf env n; pure (.yield ((n, c) :: cs))) else pure (.yield cs)) (fun n k cs => rfl) csc.names [] h
  refine ⟨cl, ?_, fun x c hx => (g2 x c hx).elim (fun h => nomatch h) id, g4⟩
  unfold closureFor
  have : (forIn csc.names ([] : List (Str × Addr)) fun x cs => match x with | (n, k) => if k == NameKind.free then (do let c ← cellOf env n; pure (ForInStep.yield ((n, c) :: cs))) else pure (ForInStep.yield cs)) = pure cl := g1
  exact (congrArg (fun m : Sem (List (Str × Addr)) => m >>= fun cs => pure cs) this).trans rfl
theorem lookup_cellsFrom : ∀ (names : List (Str × NameKind)) (n : Nat) (acc : List (Str × Addr)) (x : Str), (∀ k, (x, k) ∈ names → k ≠ .cell) → (cellsFrom n names acc).lookup x = acc.lookup x
  | [], n, acc, x, _ => rfl
  | (y, k) :: r, n, acc, x, h => by
    unfold cellsFrom
    split
    · rename_i hk
      rw [lookup_cellsFrom r _ _ x fun k' h' => h k' (List.mem_cons_of_mem _ h')]
      have : (x == y) = false := by
        cases e : x == y with
        | false => rfl
        | true =>
          obtain rfl := beq_iff_eq.mp e
          exact absurd (by simpa using hk) (h k List.mem_cons_self)
      rw [List.lookup_cons, this]
    · exact lookup_cellsFrom r _ _ x fun k' h' => h k' (List.mem_cons_of_mem _ h')
theorem mem_cellsFrom_acc : ∀ (names : List (Str × NameKind)) (n : Nat) (acc : List (Str × Addr)) (x : Str) (c : Addr), (x, c) ∈ cellsFrom n names acc → c < n → (x, c) ∈ acc
  | [], n, acc, x, c, h, _ => h
  | (y, k) :: r, n, acc, x, c, h, hlt => by
    unfold cellsFrom at h
    split at h
    · rcases List.mem_cons.mp (mem_cellsFrom_acc r (n + 1) _ x c h (Nat.lt_succ_of_lt hlt)) with e | h
      · cases e; exact absurd hlt (Nat.lt_irrefl _)
      · exact h
    · exact mem_cellsFrom_acc r n _ x c h hlt
/-- the cells of a comprehension: its own are new, the others are those around -/
theorem cells_own : ∀ (names : List (Str × NameKind)) (n : Nat) (acc : List (Str × Addr)) (x : Str) (c : Addr), (cellsFrom n names acc).lookup x = some c → (acc.lookup x = some c ∧ ∀ k, (x, k) ∈ names → k ≠ .cell) ∨ ((x, NameKind.cell) ∈ names ∧ n ≤ c)
  | [], n, acc, x, c, h => .inl ⟨h, fun _ h => nomatch h⟩
  | (y, k) :: r, n, acc, x, c, h => by
    unfold cellsFrom at h
    split at h
    · rename_i hk
      have hk' : k = .cell := by simpa using hk
      subst hk'
      rcases cells_own r (n + 1) _ x c h with ⟨h1, h2⟩ | ⟨h1, h2⟩
      · rw [List.lookup_cons] at h1
        cases e : x == y with
        | true =>
          obtain rfl := beq_iff_eq.mp e
          rw [e] at h1; cases h1
          exact .inr ⟨List.mem_cons_self, Nat.le_refl _⟩
        | false =>
          rw [e] at h1
          refine .inl ⟨h1, fun k' h' => ?_⟩
          rcases List.mem_cons.mp h' with q | q
          · cases q; simp at e
          · exact h2 k' q
      · exact .inr ⟨List.mem_cons_of_mem _ h1, by omega⟩
    · rename_i hk
      rcases cells_own r n acc x c h with ⟨h1, h2⟩ | ⟨h1, h2⟩
      · refine .inl ⟨h1, fun k' h' => ?_⟩
        rcases List.mem_cons.mp h' with q | q
        · cases q; exact fun e => hk (by rw [e]; rfl)
        · exact h2 k' q
      · exact .inr ⟨List.mem_cons_of_mem _ h1, h2⟩
theorem cells_fresh : ∀ (names : List (Str × NameKind)) (h : Heap) (acc : List (Str × Addr)), (∀ x, (x, NameKind.cell) ∈ names → ∃ c, (cellsFrom h.objs.size names acc).lookup x = some c) ∧
    (∀ x c, (x, c) ∈ cellsFrom h.objs.size names acc → (x, c) ∈ acc ∨ ((pushCells h names).IsCell c none ∧ h.objs.size ≤ c)) ∧ ((∀ x c, (x, c) ∈ acc → c < h.objs.size) → ∀ x y c, (x, c) ∈ cellsFrom h.objs.size names acc → (y, c) ∈ cellsFrom h.objs.size names acc → h.objs.size ≤ c → x = y)
  | [], h, acc => ⟨fun _ h => (by cases h), fun x c h => .inl h, fun hacc x y c h1 _ h3 => absurd (hacc x c h1) (Nat.not_lt.mpr h3)⟩
  | (y, k) :: r, h, acc => by
    unfold cellsFrom pushCells
    split
    · have ih := cells_fresh r (h.push { cls := .type "cell", data := .cell none }) ((y, h.objs.size) :: acc)
      rw [Heap.size_push] at ih
      obtain ⟨i1, i2, i3⟩ := ih
      have hself : (pushCells (h.push { cls := .type "cell", data := .cell none }) r).IsCell h.objs.size none := ⟨_, pushCells_keeps _ _ _ _ (Heap.get?_push_size _ rfl), rfl⟩
      refine ⟨fun x hx => ?_, fun x c hx => ?_, fun hacc x z c h1 h2 h3 => ?_⟩
      · have hs := cellsFrom_some (x := x) r (h.objs.size + 1) ((y, h.objs.size) :: acc)
        rcases List.mem_cons.mp hx with e | hx
        · cases e
          have hs' := hs (.inr (by rw [List.lookup_cons]; simp))
          exact Option.isSome_iff_exists.mp hs'
        · exact i1 x hx
      · rcases i2 x c hx with h1 | ⟨h1, h2⟩
        · rcases List.mem_cons.mp h1 with e | h1
          · cases e; exact .inr ⟨hself, Nat.le_refl _⟩
          · exact .inl h1
        · exact .inr ⟨h1, by omega⟩
      · have hacc' : ∀ x c, (x, c) ∈ (y, h.objs.size) :: acc → c < h.objs.size + 1 := fun x c hm => by
          rcases List.mem_cons.mp hm with e | hm
          · cases e; exact Nat.lt_succ_self _
          · exact Nat.lt_succ_of_lt (hacc x c hm)
        rcases Nat.eq_or_lt_of_le h3 with e | hlt
        · subst e
          have one : ∀ x, (x, h.objs.size) ∈ cellsFrom (h.objs.size + 1) r ((y, h.objs.size) :: acc) → x = y := fun x hx => by
            have := mem_cellsFrom_acc r (h.objs.size + 1) ((y, h.objs.size) :: acc) x h.objs.size hx (Nat.lt_succ_self _)
            rcases List.mem_cons.mp this with e | hm
            · cases e; rfl
            · exact absurd (hacc x _ hm) (Nat.lt_irrefl _)
          exact (one x h1).trans (one z h2).symm
        · exact i3 hacc' x z c h1 h2 hlt
    · exact (by
        obtain ⟨i1, i2, i3⟩ := cells_fresh r h acc
        rename_i hk
        refine ⟨fun x hx => ?_, i2, i3⟩
        rcases List.mem_cons.mp hx with e | hx
        · cases e; exact absurd rfl hk
        · exact i1 x hx)
theorem rel_free {sc : Scope} {x : Str} : ∀ {names : List (Str × NameKind)}, names.lookup x = some .free → (names.map fun (n, k) => if (k == NameKind.free && sc.kind == .function && sc.names.lookup n == some .cell) then (n, NameKind.cell) else (n, k)).lookup x = some .free ∨ (names.map fun (n, k) => if (k == NameKind.free && sc.kind == .function && sc.names.lookup n == some .cell) then (n, NameKind.cell) else (n, k)).lookup x = some .cell
  | [], h => by cases h
  | (y, k) :: r, h => by
    rw [List.map_cons]
    rw [List.lookup_cons] at h
    by_cases q : (k == NameKind.free && sc.kind == .function && sc.names.lookup y == some .cell) = true
    · simp only [if_pos q]
      rw [List.lookup_cons]
      cases e : x == y with
      | true => exact .inr rfl
      | false => rw [e] at h; exact rel_free h
    · simp only [if_neg q]
      rw [List.lookup_cons]
      cases e : x == y with
      | true => rw [e] at h; exact .inl h
      | false => rw [e] at h; exact rel_free h
theorem lookup_of_mem {x : Str} {c : Addr} : ∀ {l : List (Str × Addr)}, (x, c) ∈ l → ∃ c', l.lookup x = some c'
  | (y, d) :: r, h => by
    rw [List.lookup_cons]
    cases e : x == y with
    | true => exact ⟨d, rfl⟩
    | false =>
      rcases List.mem_cons.mp h with q | q
      · cases q; simp at e
      · exact lookup_of_mem q
/-- a comprehension's own frame, at its start -/
theorem comp_env {env : Env} {Ψ φ : Store} {ρ : Str → Option Value} {s : Shared} {csc : Scope} {cl : List (Str × Addr)} {s2 : Shared} {A : Around} {P : Env → Shared → Prop} {E : Value → Shared → Prop} {W : Addr → Prop} {D0 : Addr}
    (X : St C F env Ψ φ ρ vars bs s) (hcsc : cscOk csc = true) (hfree : freeOk csc F vars = true)
    (hcl1 : ∀ x c, (x, c) ∈ cl → (x, NameKind.free) ∈ csc.names ∧ env.cells.lookup x = some c) (hcl2 : ∀ x, (x, NameKind.free) ∈ csc.names → ∃ c, (x, c) ∈ cl)
    (hP : ∀ cenv h tk, St C (compFm csc F) { cenv with scope := relabel csc env } (Mine.prot Ψ (Wr F env ρ vars) s.heap) φ (fun x => if csc.names.lookup x = some .free then ρ x else none) (capt csc vars) bs { s with heap := h, toks := tk } →
      (∀ b o, s.heap.get? b = some o → h.get? b = some o) → s.heap.get? cenv.locals = none → P cenv { s with heap := h, toks := tk }) :
    wpAny C.M A (newFunctionEnv csc env.globals cl [] env.qual none .none (some env)) P E s := by
  simp only [cscOk, Bool.and_eq_true, beq_iff_eq] at hcsc
  obtain ⟨⟨hkind, hloc⟩, hcn⟩ := hcsc
  simp only [newFunctionEnv, Option.isSome_some, if_true]
  refine wpAny_bind (wpAny_alloc ?_)
  refine wpAny_bind (wpAny_layCells _ (fun name kind cells => by cases hkc : kind == NameKind.cell <;> simp [hkc]) _ _ _ _ ?_)
  rw [show ({ s with heap := s.heap.push { cls := .type "dict", data := .dict #[] } } : Shared).heap.objs.size = s.heap.objs.size + 1 from Heap.size_push ..]
  refine wpAny_bind ?_
  rw [List.forIn_nil]
  refine wpAny_pure (wpAny_pure ?_)
  have keep : ∀ b o, s.heap.get? b = some o → (pushCells (s.heap.push { cls := .type "dict", data := .dict #[] }) csc.names).get? b = some o := fun b o e => pushCells_keeps _ _ _ _ (Heap.get?_push_of_some _ e)
  have hL : s.heap.get? s.heap.objs.size = none := get?_size
  have fr1 := fun x c (h : (x, c) ∈ cl) => hcl1 x c h
  obtain ⟨c1, c2, c3⟩ := cells_fresh csc.names (s.heap.push { cls := .type "dict", data := .dict #[] }) cl
  rw [Heap.size_push] at c1 c2 c3
  show P _ { s with heap := pushCells (s.heap.push { cls := .type "dict", data := .dict #[] }) csc.names, toks := s.toks }
  refine hP _ _ _ ?_ keep hL
  have hcell : ∀ x, csc.names.lookup x = some .free → ∀ c, env.cells.lookup x = some c → (cellsFrom (s.heap.objs.size + 1) csc.names cl).lookup x = some c := fun x hx c hc => by
    have hnc : ∀ k, (x, k) ∈ csc.names → k ≠ .cell := fun k hk e => by
      subst e
      have hm : x ∈ cellNames csc := List.mem_map.mpr ⟨_, List.mem_filter.mpr ⟨hk, by simp⟩, rfl⟩
      have := List.all_eq_true.mp hcn x hm
      rw [hx] at this; cases this
    rw [lookup_cellsFrom _ _ _ _ hnc]
    obtain ⟨d, hd⟩ := hcl2 x (mem_of_lookup hx)
    obtain ⟨c', hc'⟩ := lookup_of_mem hd
    rw [hc']
    have := (hcl1 x c' (mem_of_lookup hc')).2
    rw [hc] at this; exact this.symm
  have hfr : ∀ x, (x, NameKind.free) ∈ csc.names → (∃ v, ρ x = some v) ∧ (F.sc.names.lookup x = some .cell ∨ F.sc.names.lookup x = some .free) ∧ csc.names.lookup x = some .free := fun x hx => by
    have := List.all_eq_true.mp hfree _ hx
    simp only [Bool.or_eq_true, bne_self_eq_false, Bool.false_eq_true, false_or, Bool.and_eq_true, beq_iff_eq] at this
    obtain ⟨⟨h1, h2⟩, h3⟩ := this
    refine ⟨?_, h2, h3⟩
    obtain ⟨sl, hsl⟩ := Option.isSome_iff_exists.mp h1
    cases sl with
    | val d => obtain ⟨v, g, _⟩ := X.F.val x d hsl; exact ⟨v, g⟩
    | mu ds => obtain ⟨a, vs, n, g, _⟩ := X.F.mu x ds hsl; exact ⟨_, g⟩
  have hclt : ∀ x c, (x, c) ∈ cl → c < s.heap.objs.size + 1 := fun x c hx => by
    obtain ⟨h1, h2⟩ := hcl1 x c hx
    obtain ⟨⟨v, h3⟩, h4, _⟩ := hfr x h1
    obtain ⟨c', h5, h6⟩ := X.F.cell x v h3 h4
    rw [h2] at h5; cases h5
    exact Nat.lt_succ_of_lt h6.lt
  have G := X.prot
  have hW : ∀ a, s.heap.get? a = none → ¬ Wr F env ρ vars a := fun a ha m => by
    obtain ⟨_, _, o, e⟩ := X.wr_phi m
    rw [ha] at e; cases e
  have hrel : relabel csc env = relS csc F.sc := by
    unfold relabel relS Env.kindOf
    rw [X.F.sc]
  have newC : ∀ x, x ∈ cellNames csc → ∃ c, (cellsFrom (s.heap.objs.size + 1) csc.names cl).lookup x = some c ∧ (pushCells (s.heap.push { cls := .type "dict", data := .dict #[] }) csc.names).IsCell c none ∧ s.heap.objs.size + 1 ≤ c := fun x hx => by
    have hm : (x, NameKind.cell) ∈ csc.names := by
      obtain ⟨p, hp, rfl⟩ := List.mem_map.mp hx
      obtain ⟨h1, h2⟩ := List.mem_filter.mp hp
      have : p.2 = .cell := by simpa using h2
      rw [← this]; exact h1
    obtain ⟨c, hc⟩ := c1 x hm
    refine ⟨c, hc, ?_⟩
    rcases c2 x c (mem_of_lookup hc) with h | h
    · have h1 := (hcl1 x c h).1
      have h2 := (hfr x h1).2.2
      have h3 := List.all_eq_true.mp hcn x hx
      rw [h2] at h3; cases h3
    · exact h
  refine ⟨G.grow keep, hrel, hkind, X.F.glob, X.F.blt, ⟨fun _ => none, (Heap.Ns.new s.heap (.type "dict")).keeps (pushCells_keeps _ _), fun x v e1 e2 => ?_⟩, ⟨(G.new hL).1, (G.new hL).2, X.bne hL⟩, fun x v e1 e2 => ?_, fun x hx => ?_, fun x c e1 e2 => ?_, fun x d e => ?_, fun x es e => ?_, fun x y es _ e => ?_⟩
  · have hf : csc.names.lookup x = some .free := by
      by_cases q : csc.names.lookup x = some .free
      · exact q
      · simp only [if_neg q] at e1; cases e1
    have := rel_free (sc := F.sc) hf
    have e2' : (relS csc F.sc).names.lookup x = some .local := e2
    rcases this with h | h <;> · rw [show (relS csc F.sc).names.lookup x = _ from h] at e2'; cases e2'
  · have hf : csc.names.lookup x = some .free := by
      by_cases q : csc.names.lookup x = some .free
      · exact q
      · simp only [if_neg q] at e1; cases e1
    simp only [if_pos hf] at e1
    obtain ⟨c, h1, h2⟩ := X.F.cell x v e1 (hfr x (mem_of_lookup hf)).2.1
    exact ⟨c, hcell x hf c h1, h2.keeps keep⟩
  · obtain ⟨c, h1, h2, h3⟩ := newC x hx
    have hn : s.heap.get? c = none := get?_ge (by omega)
    refine ⟨c, none, h1, h2, (G.new hn).1, (G.new hn).2, X.bne hn, fun y hy e => hy ?_⟩
    exact (c3 hclt x y c (mem_of_lookup h1) (mem_of_lookup e) h3).symm
  · rcases cells_own _ _ _ _ _ e1 with ⟨h1, _⟩ | ⟨h1, _⟩
    · obtain ⟨h2, h3⟩ := hcl1 x c (mem_of_lookup h1)
      obtain ⟨⟨v, h4⟩, h5, _⟩ := hfr x h2
      by_cases q : x ∈ F.ow
      · have m : Wr F env ρ vars c := .inr (.inl ⟨x, q, h3⟩)
        obtain ⟨_, _, o, e⟩ := X.wr_phi m
        exact ⟨o, by rw [prot_in m]; exact e⟩
      · obtain ⟨o, e⟩ := X.F.fr x c h3 q
        exact ⟨o, le_prot X.G c o e⟩
    · exact (e2 (List.mem_map.mpr ⟨_, List.mem_filter.mpr ⟨h1, by simp⟩, rfl⟩)).elim
  · obtain ⟨h1, h2, _⟩ := capt_lookup e
    obtain ⟨v, h3, h4⟩ := X.F.val x d h2
    exact ⟨v, by simp only [if_pos h1]; exact h3, h4⟩
  · obtain ⟨_, _, d, q⟩ := capt_lookup e; cases q
  · obtain ⟨_, _, d, q⟩ := capt_lookup e; cases q
end
end Mine
end
section
set_option maxRecDepth 100000
set_option linter.unusedVariables false
namespace Mine
open PySem PySem.W PySem.Calls PyProof.Rows PySem.Spec
theorem compLoop2 {prog : Program} {w : World} {A : Around} {s : Shared} {R : Result → Shared → Prop} {elt target iter : Expr} {ifs : List Expr} {scope : Scope} {pos : Pos} {it acc : Value} {env : Env} (I : Nat → Shared → Prop)
    (turn : ∀ n s, I n s → wpAny (model prog w) A (pyNext it) (fun r s₁ => match r with
      | none => R (.ok .next) s₁
      | some v => wpAny (model prog w) A (letOwnedTupleGo target it v) (fun _ s' => wpAny (model prog w) A (assign target env v) (fun _ s₂ =>
          wpAny (model prog w) A (forIn ifs true fun c r => if r = true then do let ok ← isTrue c env (eval c env); pure (ForInStep.yield ok) else pure (ForInStep.yield r)) (fun ok s₃ =>
            if ok = true then wpAny (model prog w) A (eval elt env) (fun x s₄ =>
              wpAny (model prog w) A (call (.builtin "list.append") [acc, x]) (fun _ s₅ => ∃ m, m < n ∧ I m s₅) (fun _ _ => False) s₄) (fun _ _ => False) s₃
            else ∃ m, m < n ∧ I m s₃) (fun _ _ => False) s₂) (fun _ _ => False) s') (fun _ _ => False) s₁) (fun _ _ => False) s)
    (n : Nat) (h : I n s) : codeAny (model prog w) A (.compLoop (.ListComp elt [⟨target, iter, ifs, 0⟩] scope pos) 0 it acc env) R s := by
  refine codeAny_loop rfl I (fun n s hI => ?_) n h
  show wpAny _ A ((compTurn (.ListComp elt [⟨target, iter, ifs, 0⟩] scope pos) 0 it acc env).onRaise (fun x => do noteFrame x env; theTreesLotGoes x)) _ _ s
  refine wpAny_noted ?_
  rw [compTurn_list]
  refine wpAny_bind (wpAny_standAt (wpAny_bind (wpAny_mono (turn n s hI) (fun r s₁ h₁ => ?_) fun _ _ h' => h'.elim)))
  cases r with
  | none => exact wpAny_pure h₁
  | some v =>
    refine wpAny_bind (wpAny_mono h₁ (fun _ s' h' => ?_) fun _ _ x => x.elim)
    refine wpAny_bind (wpAny_mono h' (fun _ s₂ h₂ => wpAny_bind (wpAny_mono h₂ (fun ok s₃ h₃ => ?_) fun _ _ h' => h'.elim)) fun _ _ h' => h'.elim)
    cases ok with
    | false => exact wpAny_pure ⟨rfl, h₃⟩
    | true =>
      exact wpAny_bind (wpAny_bind (wpAny_mono h₃ (fun x s₄ h₄ => wpAny_bind (wpAny_mono h₄ (fun _ s₅ h₅ => wpAny_pure (wpAny_pure ⟨rfl, h₅⟩)) fun _ _ h' => h'.elim)) fun _ _ h' => h'.elim))
section
variable {C : Cx} {F : Fm} {vars : Vars} {bs : BS}
noncomputable def tgtNames : Expr → List Str
  | .Name x _ => [x]
  | .Tuple ts _ _ => (namesOf ts).getD []
  | _ => []
theorem bindT_names {t : Expr} {d : D} {nv : Vars} (h : bindT t d = some nv) : nv.map (·.1) = tgtNames t ∧ ∀ p ∈ nv, ∃ e, p.2 = .val e := by
  unfold bindT at h
  split at h
  · cases h; exact ⟨rfl, fun p hp => by rw [List.mem_singleton.mp hp]; exact ⟨_, rfl⟩⟩
  · rename_i ts k p ds
    split at h
    · rename_i xs hn
      refine ⟨by rw [(putsOf_names h).1]; show xs = (namesOf ts).getD []; rw [hn]; rfl, ?_⟩
      have : ∀ {xs : List Str} {ds : List D} {nv : Vars}, putsOf xs (ds.map R.val) = some nv → ∀ p ∈ nv, ∃ e, p.2 = .val e := by
        intro xs
        induction xs with
        | nil => intro ds nv h; cases ds with
          | nil => cases h; intro p hp; cases hp
          | cons d ds => cases h
        | cons x xs ih => intro ds nv h; cases ds with
          | nil => cases h
          | cons d ds =>
            rw [List.map_cons] at h
            unfold putsOf at h
            split at h
            · rename_i sl nv' h1 h2
              cases h; cases h1
              intro p hp
              rcases List.mem_cons.mp hp with rfl | hp
              · exact ⟨d, rfl⟩
              · exact ih h2 p hp
            · cases h
      exact this h
    · cases h
  · cases h
theorem lookup_append_ne {x : Str} {l r : Vars} (h : x ∉ l.map (·.1)) : (l ++ r).lookup x = r.lookup x := by
  induction l with
  | nil => rfl
  | cons p l ih =>
    obtain ⟨y, sl⟩ := p
    rw [List.map_cons, List.mem_cons, not_or] at h
    rw [List.cons_append, lookup_ne h.1]
    exact ih h.2
theorem lookup_mem' {x : Str} {sl : Slot} : ∀ {l : Vars}, l.lookup x = some sl → (x, sl) ∈ l
  | (y, s2) :: r, h => by
    by_cases e : x = y
    · subst e; rw [lookup_self] at h; cases h; exact List.mem_cons_self
    · rw [lookup_ne e] at h; exact List.mem_cons_of_mem _ (lookup_mem' h)
/-- how a comprehension goes, told over its own frame -/
structure CompOk (C : Cx) (F : Fm) (vars : Vars) (csc : Scope) (target elt : Expr) (ifs : List Expr) (Inv : List D → List D → BS → Prop) : Prop where
  turn : ∀ x rest acc b, Inv (x :: rest) acc b → ∃ nv, bindT target x = some nv ∧ TsL C (compFm csc F) (nv ++ capt csc vars) b ifs fun b' t =>
    (t = true → Ev C (compFm csc F) (nv ++ capt csc vars) b' elt fun b2 r => ValK (fun d => acc.length ≤ 16777215 ∧ Inv rest (acc ++ [d]) b2) r.norm) ∧ (t = false → Inv rest acc b')
  tgt : tgtOk (compFm csc F) target = true
  cok : cscOk csc = true
  free : freeOk csc F vars = true
  apart : (tgtNames target).all (fun x => !(csc.names.lookup x == some .free)) = true
inductive CompI (C : Cx) (F : Fm) (env : Env) (Ψ φ0 : Store) (pv : List Addr) (xs : List D) (J : Nat → Store → Heap → Prop) (Inv : List D → List D → BS → Prop) (vars : Vars) (Dl L : Addr) (n : Nat) (s : Shared) : Prop
  | intro (i : Nat) (φ : Store) (ρ : Str → Option Value) (b : BS) (acc : List D) (vs : Array Value) (m : Nat) (hn : n + i = xs.length + 1) (hi : i ≤ xs.length) (le : φ0.Le φ) (X : St C F env Ψ φ ρ vars b s) (hJ : J i φ s.heap) (V : PvOk C Ψ φ pv s.heap)
    (d : s.heap.get? Dl = some (listOf vs m)) (p : φ Dl = none) (q : φ L = none) (r : Reps φ C.β vs.toList acc) (k : Inv (xs.drop i) acc b) : CompI C F env Ψ φ0 pv xs J Inv vars Dl L n s
theorem comp_core {env : Env} {Ψ φ : Store} {ρ : Str → Option Value} {s : Shared} {csc : Scope} {cl : List (Str × Addr)} {A : Around} {target elt iter : Expr} {ifs : List Expr} {pos : Pos} {Inv : List D → List D → BS → Prop} {xs : List D} {pv : List Addr} {I : Addr} {J : Nat → Store → Heap → Prop} {tok : Expr → Prop} {E : Value → Shared → Prop} {RR : Value → Addr → Result → Shared → Prop}
    (hA : AOk F.n A) (X : St C F env Ψ φ ρ vars bs s) (K : CompOk C F vars csc target elt ifs Inv) (hcl1 : ∀ x c, (x, c) ∈ cl → (x, NameKind.free) ∈ csc.names ∧ env.cells.lookup x = some c) (hcl2 : ∀ x, (x, NameKind.free) ∈ csc.names → ∃ c, (x, c) ∈ cl)
    (It : Itr C pv I xs tok J) (htok : tok target) (hJ : J 0 φ s.heap) (hpv : ∀ a ∈ pv, φ a = none ∧ Ψ a = none ∧ a ≠ C.β ∧ IsFields s.heap a) (h0 : Inv xs [] bs)
    (hRR : ∀ Dl L φ' bs' acc s' vs n, φ.Le φ' → GSt C (Mine.prot Ψ (Wr F env ρ vars) s.heap) φ' bs' s' → Inv [] acc bs' → s'.heap.get? Dl = some (listOf vs n) → Reps φ' C.β vs.toList acc → s.heap.get? Dl = none → φ' Dl = none → Dl ≠ L → s.heap.get? L = none → φ' L = none → (∃ m, s'.heap.Ns L m) →
      RR (.ref Dl) L (.ok .next) s') :
    wpAny C.M A (newList []) (fun acc s₃ => wpAny C.M A (newFunctionEnv csc env.globals cl [] env.qual none .none (some env)) (fun cenv s₄ =>
      codeAny C.M A (.compStart (.ListComp elt [⟨target, iter, ifs, 0⟩] csc pos) 0 (.ref I) acc { cenv with scope := relabel csc env }) (RR acc cenv.locals) s₄) E s₃) E s := by
  refine wpAny_newObj_type ?_ (by size_fits)
  have hDn : s.heap.get? s.heap.objs.size = none := get?_size
  generalize hD : s.heap.objs.size = Dl at hDn ⊢
  have hDl : (s.heap.push (listOf #[] 0)).get? Dl = some (listOf #[] 0) := by rw [← hD]; exact Heap.get?_push_size _ rfl
  have X1 : St C F env Ψ φ ρ vars bs { s with heap := s.heap.push (listOf #[] 0) } := X.grow (tk := s.toks) fun b o e => Heap.get?_push_of_some _ e
  refine comp_env (F := F) (vars := vars) (D0 := 0) (W := fun _ => True) (s2 := s) X1 K.cok K.free hcl1 hcl2 fun cenv h tk X2 hk hL => ?_
  dsimp only at hk hL
  have hLs : s.heap.get? cenv.locals = none := by
    cases e : s.heap.get? cenv.locals with
    | none => rfl
    | some o => rw [Heap.get?_push_of_some _ e] at hL; cases hL
  have hprot : Mine.prot Ψ (Wr F env ρ vars) (s.heap.push (listOf #[] 0)) = Mine.prot Ψ (Wr F env ρ vars) s.heap := by
    funext b
    by_cases m : Wr F env ρ vars b
    · rw [prot_in m, prot_in m]
      obtain ⟨_, _, o, e⟩ := X.wr_phi m
      rw [e, Heap.get?_push_of_some _ e]
    · rw [prot_out m, prot_out m]
  have X2' : St C (compFm csc F) { cenv with scope := relabel csc env } (Mine.prot Ψ (Wr F env ρ vars) s.heap) φ (fun x => if csc.names.lookup x = some .free then ρ x else none) (capt csc vars) bs { s with heap := h, toks := tk } := hprot ▸ X2
  generalize hce : ({ cenv with scope := relabel csc env } : Env) = ce at X2'
  have hlo : ce.locals = cenv.locals := by rw [← hce]
  generalize hPsi : Mine.prot Ψ (Wr F env ρ vars) s.heap = Ψ2 at X2' hRR
  have hWn : ∀ a, s.heap.get? a = none → Ψ2 a = none := fun a ha => by
    rw [← hPsi, prot_out (fun m => by obtain ⟨_, _, o, e⟩ := X.wr_phi m; rw [ha] at e; cases e)]
    exact (X.G.new ha).2
  have hWpv : ∀ a ∈ pv, Ψ2 a = none := fun a m => by
    obtain ⟨g1, g2, g3, o, vs, g4, g5⟩ := hpv a m
    rw [← hPsi, prot_out (fun w => ?_)]
    · exact g2
    · rcases w with rfl | ⟨x, hx, e⟩ | ⟨x, ds, e, e2⟩
      · obtain ⟨_, ⟨o', es, ep, k1, k2, _⟩, _⟩ := X.F.ns
        rw [g4] at k1; cases k1; exact g5.notD (fun _ q => by rw [k2] at q; cases q) (fun _ _ q => by rw [k2] at q; cases q)
      · obtain ⟨c, v, k1, ⟨o', k2, k3⟩, _⟩ := X.F.own x hx
        rw [k1] at e; cases e
        rw [g4] at k2; cases k2; exact g5.notD (fun _ q => by rw [k3] at q; cases q) (fun _ _ q => by rw [k3] at q; cases q)
      · obtain ⟨b, us, n, k1, k2, _⟩ := X.F.mu x ds e
        rw [k1] at e2; cases e2
        rw [g4] at k2; cases k2; exact g5.notL
  have hnoMu : ∀ nv, (∀ p ∈ nv, ∃ e, p.2 = Slot.val e) → ∀ x es, (nv ++ capt csc vars).lookup x ≠ some (.mu es) := fun nv hnv x es e => by
    rcases List.mem_append.mp (lookup_mem' e) with hm | hm
    · obtain ⟨d, q⟩ := hnv _ hm; cases q
    · by_cases q : x ∈ nv.map (·.1)
      · -- then the lookup is that of nv
        have : ∃ sl, nv.lookup x = some sl ∧ (nv ++ capt csc vars).lookup x = some sl := by
          clear e hm hnv
          induction nv with
          | nil => cases q
          | cons p l ih =>
            obtain ⟨y, sl⟩ := p
            by_cases w : x = y
            · subst w; exact ⟨sl, lookup_self, lookup_self⟩
            · rw [List.map_cons, List.mem_cons] at q
              rcases q with q | q
              · exact absurd q w
              · obtain ⟨sl', k1, k2⟩ := ih q
                exact ⟨sl', by rw [lookup_ne w]; exact k1, by rw [List.cons_append, lookup_ne w]; exact k2⟩
        obtain ⟨sl, k1, k2⟩ := this
        rw [k2] at e; cases e
        obtain ⟨d, w⟩ := hnv _ (lookup_mem' k1); cases w
      · rw [lookup_append_ne q] at e
        obtain ⟨_, _, d, w⟩ := capt_lookup e; cases w
  have hDβ : Dl ≠ C.β := X.bne hDn
  have hDL : Dl ≠ cenv.locals := by
    rintro rfl
    rw [hDl] at hL; cases hL
  have hDpv : Dl ∉ pv := fun m => by
    obtain ⟨_, _, _, o, vs, g4, _⟩ := hpv Dl m
    rw [hDn] at g4; cases g4
  have loop : codeAny C.M A (.compLoop (.ListComp elt [⟨target, iter, ifs, 0⟩] csc pos) 0 (.ref I) (.ref Dl) ce) (RR (.ref Dl) cenv.locals) { s with heap := h, toks := tk } := by
    refine compLoop2 (CompI C (compFm csc F) ce Ψ2 φ pv xs J Inv (capt csc vars) Dl cenv.locals) (fun n s3 hI => ?_) (xs.length + 1)
      (.intro 0 φ _ bs [] #[] 0 rfl (Nat.zero_le _) (Store.Le.refl φ) X2' (It.frame 0 φ φ s.heap _ hJ (Store.Le.refl φ) fun a m => ?_) ⟨hWpv, fun a m => (hpv a m).2.2.1, fun a m => (hpv a m).1, fun a m => ?_⟩ (hk _ _ hDl) (X.G.new hDn).1 (X.G.new hLs).1 .nil (by simpa using h0))
    rotate_left
    · obtain ⟨_, _, _, o, vs, g4, _⟩ := hpv a m
      rw [g4]; exact hk _ _ (Heap.get?_push_of_some _ g4)
    · obtain ⟨_, _, _, o, vs, g4, g5⟩ := hpv a m
      exact ⟨o, vs, hk _ _ (Heap.get?_push_of_some _ g4), g5⟩
    obtain ⟨i, φ3, ρ3, b3, acc, us, m, hn, hi, le3, X3, J3, V3, d3, p3, q3, r3, i3⟩ := hI
    cases hx : xs[i]? with
    | none =>
      refine wpAny_mono (It.done i φ3 A s3 (fun _ _ => False) (fun s4 => St C (compFm csc F) ce Ψ2 φ3 ρ3 (capt csc vars) b3 s4 ∧ s4.heap.get? Dl = some (listOf us m)) hA.1 J3 X3.G.fro V3.phi hx fun h' tk' hk' => ⟨X3.stepPv V3 hk', hk' _ _ hDpv d3⟩) (fun r s4 ⟨e, X4, d4⟩ => ?_) fun _ _ x => x
      subst e
      have hd : xs.drop i = [] := List.drop_eq_nil_of_le (List.getElem?_eq_none_iff.mp hx)
      rw [hd] at i3
      obtain ⟨mm, hns, _⟩ := X4.F.ns
      exact hRR Dl cenv.locals φ3 b3 acc s4 us m le3 X4.G i3 d4 r3 hDn p3 hDL hLs q3 ⟨mm, hlo ▸ hns⟩
    | some d =>
      have hlt : i < xs.length := (List.getElem?_eq_some_iff.mp hx).1
      have hd : xs.drop i = d :: xs.drop (i + 1) := by
        rw [List.drop_eq_getElem_cons hlt]
        congr 1
        exact (List.getElem?_eq_some_iff.mp hx).2
      rw [hd] at i3
      obtain ⟨nv, hb, hbody⟩ := K.turn d _ acc b3 i3
      obtain ⟨hnames, hvals⟩ := bindT_names hb
      refine wpAny_mono (It.item i φ3 d A s3 target (fun _ _ => False) (fun v s4 => St C (compFm csc F) ce Ψ2 φ3 ρ3 (capt csc vars) b3 s4 ∧ J (i + 1) φ3 s4.heap ∧ (∀ a ∈ pv, IsFields s4.heap a) ∧ ItemRep C φ3 s3.heap s4.heap v d ∧ s4.heap.get? Dl = some (listOf us m)) hA.1 htok J3 X3.G.fro V3.phi hx fun v h' tk' hk' hJ' hp' hv' => ⟨X3.stepPv V3 hk', hJ', hp', hv', hk' _ _ hDpv d3⟩) (fun r s4 ⟨v, e, h4⟩ => ?_) fun _ _ x => x
      subst e
      refine wpAny_mono h4 (fun _ s5 ⟨X5, J5, p5, v5, d5⟩ => ?_) fun _ _ x => x
      have V5 : PvOk C Ψ2 φ3 pv s5.heap := ⟨V3.psi, V3.box, V3.phi, p5⟩
      have X5a := X5.over V5
      have leA : Ψ2.Le (Ψ2.over pv s5.heap) := le_over X5.G
      have hΨD : Ψ2 Dl = none := hWn Dl hDn
      have hΨDa : (Ψ2.over pv s5.heap) Dl = none := by unfold Store.over; rw [if_neg hDpv]; exact hΨD
      have X5b := X5a.protect (a := Dl) d5 p3 hDβ (X5a.ne_loc d5) (X5a.ne_cell d5) (fun x es e => (hnoMu [] (fun _ h => nomatch h) x es e).elim)
      have leB : (Ψ2.over pv s5.heap).Le ((Ψ2.over pv s5.heap).put Dl (listOf us m)) := Store.le_put hΨDa
      refine item_bind (Ψ := (Ψ2.over pv s5.heap).put Dl (listOf us m)) hA.1 X5b X3.G.fro ?_ X3.G.bex (fun x es e => (hnoMu [] (fun _ h => nomatch h) x es e).elim) v5 K.tgt hb fun φ6 ρ6 s6 le6 X6 => ?_
      · intro b o e
        unfold Store.put at e
        split at e
        · rename_i q; subst q; exact ⟨_, d3⟩
        · unfold Store.over at e
          split at e
          · rename_i mm
            obtain ⟨o', _, g, _⟩ := V3.obj b mm
            exact ⟨o', g⟩
          · exact ⟨o, X3.G.pro b o e⟩
      refine wpAny_mono (hbody.run A ce _ φ6 ρ6 s6 hA X6) (fun t s7 ⟨φ7, b7, le7, X7, k7⟩ => ?_) fun _ _ x => x
      have fin : ∀ {s8 : Shared} {φ8 : Store} {b8 : BS} {acc8 : List D} {us8 : Array Value} {m8 : Nat}, φ6.Le φ8 → St C (compFm csc F) ce Ψ2 φ8 ρ6 (nv ++ capt csc vars) b8 s8 → (∀ a ∈ pv, s8.heap.get? a = s5.heap.get? a) → (∀ a ∈ pv, φ8 a = none) → s8.heap.get? Dl = some (listOf us8 m8) → φ8 Dl = none → φ8 cenv.locals = none → Reps φ8 C.β us8.toList acc8 → Inv (xs.drop (i + 1)) acc8 b8 →
          ∃ m', m' < n ∧ CompI C (compFm csc F) ce Ψ2 φ pv xs J Inv (capt csc vars) Dl cenv.locals m' s8 := by
        intro s8 φ8 b8 acc8 us8 m8 le8 X8 hp8 hq8 hd8 hD8 hL8 hr8 hi8
        refine ⟨xs.length - i, by omega, .intro (i + 1) φ8 ρ6 b8 acc8 us8 m8 (by omega) hlt ((le3.trans le6).trans le8) (X8.weaken ?_) (It.frame _ _ _ _ _ J5 (le6.trans le8) hp8) ⟨V3.psi, V3.box, hq8, fun a mm => ?_⟩ hd8 hD8 hL8 hr8 hi8⟩
        · intro x sl e
          have hf := (capt_lookup e).1
          rw [lookup_append_ne]
          · exact e
          · rw [hnames]
            intro hm
            have := List.all_eq_true.mp K.apart x hm
            rw [hf] at this; cases this
        · obtain ⟨o, vs, g1, g2⟩ := p5 a mm
          exact ⟨o, vs, (hp8 a mm).trans g1, g2⟩
      have keep : ∀ {s8 : Shared} {φ8 : Store} {b8 : BS}, GSt C ((Ψ2.over pv s5.heap).put Dl (listOf us m)) φ8 b8 s8 → (∀ a ∈ pv, s8.heap.get? a = s5.heap.get? a) ∧ (∀ a ∈ pv, φ8 a = none) ∧ s8.heap.get? Dl = some (listOf us m) ∧ φ8 Dl = none := by
        intro s8 φ8 b8 G8
        have hp : ∀ a ∈ pv, ∃ o, ((Ψ2.over pv s5.heap).put Dl (listOf us m)) a = some o ∧ s5.heap.get? a = some o := fun a mm => by
          obtain ⟨o, vs, g1, _⟩ := p5 a mm
          have hne : a ≠ Dl := fun q => hDpv (q ▸ mm)
          refine ⟨o, ?_, g1⟩
          unfold Store.put; rw [if_neg hne, over_mem mm]; exact g1
        have none_of : ∀ a o, ((Ψ2.over pv s5.heap).put Dl (listOf us m)) a = some o → φ8 a = none := fun a o e => by
          cases q : φ8 a with
          | none => rfl
          | some o' => rw [G8.sep a o' q] at e; cases e
        refine ⟨fun a mm => ?_, fun a mm => ?_, G8.pro _ _ (Store.put_self ..), none_of _ _ (Store.put_self ..)⟩
        · obtain ⟨o, g1, g2⟩ := hp a mm
          rw [g2]; exact G8.pro _ _ g1
        · obtain ⟨o, g1, _⟩ := hp a mm
          exact none_of a o g1
      have leAll : Ψ2.Le ((Ψ2.over pv s5.heap).put Dl (listOf us m)) := leA.trans leB
      have phiL : ∀ {φ8 : Store} {ρ8 : Str → Option Value} {v8 : Vars} {b8 : BS} {s8 : Shared} {Ψ8 : Store}, St C (compFm csc F) ce Ψ8 φ8 ρ8 v8 b8 s8 → φ8 cenv.locals = none := fun X8 => hlo ▸ X8.F.loc.1
      cases t with
      | false =>
        obtain ⟨a1, a2, a3, a4⟩ := keep X7.G
        exact fin le7 (X7.unprotect leAll X3.F.fr) a1 a2 a3 a4 (phiL X7) (r3.mono (le6.trans le7)) (k7.2 rfl)
      | true =>
        refine wpAny_mono (one (K := fun b2 r => ValK (fun d => acc.length ≤ 16777215 ∧ Inv (xs.drop (i + 1)) (acc ++ [d]) b2) r) (k7.1 rfl) hA X7) (fun y s8 ⟨φ8, b8, r, le8, X8, h8, k8⟩ => ?_) fun _ _ x => x
        revert h8 k8
        generalize r.norm = r
        intro h8 k8
        cases r with
        | val dd =>
          obtain ⟨hz, hI⟩ := k8
          obtain ⟨a1, a2, a3, a4⟩ := keep X8.G
          have el := r3.length
          rw [Array.length_toList] at el
          refine wpAny_list_append_plain (hsz := by rw [sizeLine_eq]; omega) ⟨m, a3⟩ fun h' hp hb => ?_
          obtain ⟨m', hm'⟩ := hp
          have X8u := X8.unprotect leAll X3.F.fr
          refine fin (s8 := { s8 with heap := h' }) (le7.trans le8) (X8u.updFree (tk := s8.toks) a3 a4 hΨD hDβ (fun x es e => (hnoMu nv hvals x es e).elim) hb.extBut) (fun a mm => ?_) a2 hm' a4 (phiL X8) ?_ hI
          · rw [hb.2 a (fun q => hDpv (q ▸ mm))]; exact a1 a mm
          · rw [Array.toList_push]
            exact (r3.mono ((le6.trans le7).trans le8)).snoc h8
        | _ => exact k8.elim
  exact codeAny_compStart_list loop (It.self 0 φ A _ _ _ (It.frame 0 φ φ s.heap _ hJ (Store.Le.refl φ) (fun a m => by
    obtain ⟨_, _, _, o, vs, g4, _⟩ := hpv a m
    rw [g4]; exact hk _ _ (Heap.get?_push_of_some _ g4))) loop)
end
end Mine
end
section
set_option maxRecDepth 100000
set_option linter.unusedVariables false
namespace Mine
open PySem PySem.W PySem.Calls PyProof.Rows PySem.Spec
section
variable {C : Cx} {F : Fm} {vars : Vars} {bs : BS}
theorem St.updNs {env : Env} {Ψ φ : Store} {ρ : Str → Option Value} {s : Shared} {a : Addr} {h : Heap} {tk : Nat} (X : St C F env Ψ φ ρ vars bs s) (ha : ∃ m, s.heap.Ns a m) (hl : a ≠ env.locals) (hφ : φ a = none) (hΨ : Ψ a = none) (hb : a ≠ C.β)
    (hk : ∀ b o, b ≠ a → s.heap.get? b = some o → h.get? b = some o) : St C F env Ψ φ ρ vars bs { s with heap := h, toks := tk } := by
  obtain ⟨_, oa, esa, epa, ha1, ha2, _⟩ := ha
  have ne : ∀ b o, s.heap.get? b = some o → (∀ es ep, o.data ≠ .dict es ep) → h.get? b = some o := fun b o e hd => hk b o (by rintro rfl; rw [ha1] at e; cases e; exact hd _ _ ha2) e
  refine ⟨X.G.upd hk hφ hΨ hb, X.F.sc, X.F.kind, X.F.glob, X.F.blt, ?_, X.F.loc, ?_, ?_, X.F.fr, X.F.val, ?_, X.F.dis⟩
  · obtain ⟨m, ⟨o, es, ep, h1, h2, h3⟩, h4⟩ := X.F.ns
    exact ⟨m, ⟨o, es, ep, hk _ _ (Ne.symm hl) h1, h2, h3⟩, h4⟩
  · intro x v e1 e2
    obtain ⟨c, h1, o, h2, h3⟩ := X.F.cell x v e1 e2
    exact ⟨c, h1, o, ne _ _ h2 (fun _ _ q => by rw [h3] at q; cases q), h3⟩
  · intro x hx
    obtain ⟨c, v, h1, ⟨o, h2, h3⟩, h4⟩ := X.F.own x hx
    exact ⟨c, v, h1, ⟨o, ne _ _ h2 (fun _ _ q => by rw [h3] at q; cases q), h3⟩, h4⟩
  · intro x ds e
    obtain ⟨b, vs, n, h1, h2, h3⟩ := X.F.mu x ds e
    exact ⟨b, vs, n, h1, ne _ _ h2 (fun _ _ q => by cases q), h3⟩
noncomputable def swB (F : Fm) (csc : Scope) (t : Str) (l1 l2 : Nat) : Bool := F.sc.names.lookup t == some .local && l1 == l2 && !(csc.names.any fun (n, k) => n == t && (k == .local || k == .cell))
theorem swaps_comp {env : Env} {elt : Expr} {gs : List Comprehension} {csc : Scope} {pos p : Pos} {t : Str} {line : Nat} (hk : env.scope = F.sc) (hf : F.sc.kind = .function) : swapsWith (.ListComp elt gs csc pos) (some (.Name t p)) line env = pure (swB F csc t p.line pos.line) := by
  unfold swapsWith swB
  have h1 : (env.blockKind == .function) = true := by unfold Env.blockKind; rw [hk, hf]; rfl
  have h2 : env.kindOf t = F.sc.names.lookup t := by rw [← hk]; rfl
  dsimp only
  rw [h1, h2]
  rfl
theorem comp_all_src {env : Env} {Ψ φ : Store} {ρ : Str → Option Value} {s : Shared} {A : Around} {target elt iter : Expr} {ifs : List Expr} {csc : Scope} {pos cpos : Pos} {Inv : List D → List D → BS → Prop} {use : Option (Value → Sem Unit)} {P : Value → Shared → Prop} {Q0 : BS → List D → Prop}
    (hA : AOk F.n A) (X : St C F env Ψ φ ρ vars bs s) (K : CompOk C F vars csc target elt ifs Inv) (hs : notSetE iter = true)
    (hi : Src C F vars bs target iter fun b xs => Inv xs [] b ∧ ∀ acc b', Inv [] acc b' → Q0 b' acc) (hfree : freeOk csc F vars = true)
    (hP : ∀ φ' b acc s' Dl L, φ.Le φ' → St C F env Ψ φ' ρ vars b s' → RV C env Ψ φ' ρ vars s' (.ref Dl) (.own acc) → Q0 b acc → Dl ≠ L → L ≠ env.locals → (∃ m, s'.heap.Ns L m) → φ' L = none → Ψ L = none → L ≠ C.β → (∀ x ∈ F.ow, env.cells.lookup x ≠ some L) → (∀ x es, vars.lookup x = some (.mu es) → ρ x ≠ some (.ref L)) →
      compPost C.M A (fun _ _ => False) use P (.ref Dl) L (.ok .next) s') :
    wpAny C.M A (comprehension (.ListComp elt [⟨target, iter, ifs, 0⟩] csc pos) csc env cpos (newList []) false (eval iter env) use) P (fun _ _ => False) s := by
  have hcsc := K.cok
  simp only [cscOk, Bool.and_eq_true, beq_iff_eq] at hcsc
  obtain ⟨⟨hkind, hloc⟩, hcn⟩ := hcsc
  obtain ⟨cl, hcl, hcl1, hcl2⟩ := closureFor_at (csc := csc) (env := env) (fun p hp hf => by
    have := List.all_eq_true.mp hfree _ hp
    simp only [hf, Bool.or_eq_true, bne_self_eq_false, Bool.false_eq_true, false_or, Bool.and_eq_true, beq_iff_eq] at this
    obtain ⟨⟨h1, h2⟩, h3⟩ := this
    have hv : ∃ v, ρ p.1 = some v := by
      obtain ⟨sl, hsl⟩ := Option.isSome_iff_exists.mp h1
      cases sl with
      | val d => obtain ⟨v, g, _⟩ := X.F.val _ d hsl; exact ⟨v, g⟩
      | mu ds => obtain ⟨a, vs, n, g, _⟩ := X.F.mu _ ds hsl; exact ⟨_, g⟩
    obtain ⟨v, g⟩ := hv
    obtain ⟨c, h5, _⟩ := X.F.cell _ v g h2
    exact ⟨c, h5⟩)
  refine wpAny_comprehension_free (use := use) rfl (fun x => folded_plain hs x) hcl hkind (fun x hx hl => ?_) ?_
  · have := List.all_eq_true.mp hloc x hx
    rw [hl] at this
    simpa using this
  refine wpAny_mono (hi.run A env Ψ φ ρ s hA X) (fun x s1 h1 => wpAny_mono h1 (fun it s2 h2 => ?_) fun _ _ x => x) fun _ _ x => x
  obtain ⟨φ1, b1, pv, I, J, xs, le1, X2, It, hJ, hpv, i1, q1⟩ := h2
  refine comp_core (RR := fun acc L r s' => compPost C.M A (fun _ _ => False) use P acc L r s') hA X2 K hcl1 hcl2 It rfl hJ hpv i1 ?_
  intro Dl L φ' bs' acc s' vs n le G inv hD hr hDn hDp hne hLn hLp hns
  have X3 : St C F env Ψ φ' ρ vars bs' s' := X2.back G le
  have hmu : ∀ x es a, (s2.heap.get? a = none) → vars.lookup x = some (.mu es) → ρ x ≠ some (.ref a) := fun x es a ha e q => by
    obtain ⟨b2, us, m, g1, g2, _⟩ := X2.F.mu x es e
    rw [g1] at q
    cases q
    have g2' : s2.heap.get? a = _ := g2
    rw [ha] at g2'; cases g2'
  refine hP φ' bs' acc s' Dl L (le1.trans le) X3 ⟨Dl, ⟨vs, n, rfl, hD, hr, hDp, (X2.G.new hDn).2, X2.bne hDn⟩, fun x es e => hmu x es Dl hDn e⟩ (q1 _ _ inv) hne ?_ hns hLp (X2.G.new hLn).2 (X2.bne hLn) ?_ (fun x es e => hmu x es L hLn e)
  · rintro rfl
    obtain ⟨m, ⟨o, es, ep, g, _⟩, _⟩ := X2.F.ns
    rw [hLn] at g; cases g
  · intro x hx e
    obtain ⟨c, v, g1, ⟨o, g2, _⟩, _⟩ := X2.F.own x hx
    rw [g1] at e; cases e
    rw [hLn] at g2; cases g2
theorem Ev_comp_src {target elt iter : Expr} {ifs : List Expr} {csc : Scope} {pos : Pos} {Q : BS → R → Prop} (Inv : List D → List D → BS → Prop)
    (hi : Src C F vars bs target iter fun b xs => Inv xs [] b ∧ ∀ acc b', Inv [] acc b' → Q b' (.own acc)) (K : CompOk C F vars csc target elt ifs Inv) (hs : notSetE iter = true) : Ev C F vars bs (.ListComp elt [⟨target, iter, ifs, 0⟩] csc pos) Q :=
  ⟨fun A env Ψ φ ρ s hA X => by
    rw [eval_ListComp]
    refine comp_all_src (Q0 := fun b acc => Q b (.own acc)) hA X K hs hi K.free fun φ' b acc s' Dl L le X' hr q hne hl hns hLφ hLΨ hLβ hLo hLm => ?_
    obtain ⟨m, hns⟩ := hns
    refine ⟨m, hns, fun h' hb => ⟨φ', b, .own acc, le, X'.updNs (tk := s'.toks) ⟨m, hns⟩ hl hLφ hLΨ hLβ hb.extBut, ?_, q⟩⟩
    obtain ⟨a, ⟨vs, n, e, h1, h2⟩, h3⟩ := hr
    cases e
    exact ⟨Dl, ⟨vs, n, rfl, hb.extBut _ _ hne h1, h2⟩, h3⟩⟩
theorem Ev_comp {target elt iter : Expr} {ifs : List Expr} {csc : Scope} {pos : Pos} {Q : BS → R → Prop} (Inv : List D → List D → BS → Prop)
    (hi : Ev C F vars bs iter fun b r => ∃ xs, ItOk C r.norm xs ∧ Inv xs [] b ∧ ∀ acc b', Inv [] acc b' → Q b' (.own acc)) (K : CompOk C F vars csc target elt ifs Inv) (hs : notSetE iter = true) : Ev C F vars bs (.ListComp elt [⟨target, iter, ifs, 0⟩] csc pos) Q :=
  Ev_comp_src Inv (Src_ev hi) K hs
theorem Ex1_assign_comp_src {y : Str} {py : Pos} {target elt iter : Expr} {ifs : List Expr} {csc : Scope} {pos spos : Pos} {Q : Vars → BS → Fl → Prop} (Inv : List D → List D → BS → Prop)
    (hi : Src C F vars bs target iter fun b xs => Inv xs [] b ∧ ∀ acc b', Inv [] acc b' → Q ((y, .mu acc) :: vars) b' .next) (K : CompOk C F vars csc target elt ifs Inv) (hs : notSetE iter = true) (hx : isLoc F y = true) :
    Ex1 C F vars bs (.Assign [.Name y py] (.ListComp elt [⟨target, iter, ifs, 0⟩] csc pos) spos) Q :=
  ⟨fun A env Ψ φ ρ s hA X => by
    have hsw := swaps_comp (F := F) (elt := elt) (gs := [⟨target, iter, ifs, 0⟩]) (csc := csc) (pos := pos) (p := py) (t := y) (line := spos.line) X.F.sc X.F.kind
    cases hb : swB F csc y py.line pos.line with
    | false =>
      rw [hb] at hsw
      refine wpAny_Assign_Name (wpAny_mono ((Ev_comp_src (Q := fun b r => OwnK (fun ds => Q ((y, .mu ds) :: vars) b .next) r) Inv hi K hs).run A env Ψ φ ρ s hA X) (fun v s1 ⟨φ1, b1, r, le, X1, h1, k⟩ => ?_) fun _ _ x => x) hsw
      cases r with
      | own ds => exact store_at X1 (sl := .mu ds) h1 hx fun s' X2 => ⟨φ1, _, _, b1, .next, le, X2, trivial, k⟩
      | _ => exact k.elim
    | true =>
      rw [hb] at hsw
      rw [exec_Assign_Name_used _ _ _ _ hsw]
      refine wpAny_bind (wpAny_standAt (wpAny_bind ?_))
      show wpAny _ A (do let _ ← comprehension (.ListComp elt [⟨target, iter, ifs, 0⟩] csc pos) csc env _ (newList []) false (eval iter env) (some (assign (.Name y py) env))) _ _ s
      refine wpAny_bind (wpAny_mono (comp_all_src (use := some (assign (.Name y py) env)) (P := fun _ s' => ExR C F env Ψ φ Q .next s') (Q0 := fun b acc => Q ((y, .mu acc) :: vars) b .next) hA X K hs hi K.free fun φ' b acc s' Dl L le X' hr q hne hl hns hLφ hLΨ hLβ hLo hLm => ?_) (fun _ s' hq => wpAny_pure (wpAny_pure hq)) fun _ _ e => e)
      show wpAny _ A (assign (.Name y py) env (.ref Dl)) _ _ _
      obtain ⟨m, oL, hns⟩ := id hns
      obtain ⟨es, ep, g1, g2, g3⟩ := id hns
      have hr2 := hr
      obtain ⟨a, ⟨vs, n, e, h1, h2, h3, h4, h5⟩, h6⟩ := hr2
      cases e
      have X2 := X'.protect g1 hLφ hLβ hl hLo hLm
      have hr3 : RV C env (Ψ.put L oL) φ' ρ vars s' (.ref Dl) (.own acc) := ⟨Dl, ⟨vs, n, rfl, h1, h2, h3, by unfold Store.put; rw [if_neg hne]; exact h4, h5⟩, h6⟩
      refine assign_name X2 (sl := .mu acc) hr3 hx fun s2 X3 => ?_
      have g4 := X3.G.pro L oL (Store.put_self ..)
      refine ⟨m, ⟨oL, es, ep, g4, g2, g3⟩, fun h' hb2 => ⟨φ', _, _, b, .next, le, (X3.unprotect (Store.le_put hLΨ) X.F.fr).updNs (tk := s2.toks) ⟨m, oL, es, ep, g4, g2, g3⟩ hl hLφ hLΨ hLβ hb2.extBut, trivial, q⟩⟩⟩
theorem Ex1_assign_comp {y : Str} {py : Pos} {target elt iter : Expr} {ifs : List Expr} {csc : Scope} {pos spos : Pos} {Q : Vars → BS → Fl → Prop} (Inv : List D → List D → BS → Prop)
    (hi : Ev C F vars bs iter fun b r => ∃ xs, ItOk C r.norm xs ∧ Inv xs [] b ∧ ∀ acc b', Inv [] acc b' → Q ((y, .mu acc) :: vars) b' .next) (K : CompOk C F vars csc target elt ifs Inv) (hs : notSetE iter = true) (hx : isLoc F y = true) :
    Ex1 C F vars bs (.Assign [.Name y py] (.ListComp elt [⟨target, iter, ifs, 0⟩] csc pos) spos) Q :=
  Ex1_assign_comp_src Inv (Src_ev hi) K hs hx
end
end Mine
end
section
set_option maxRecDepth 100000
set_option linter.unusedVariables false
namespace Mine
open PySem PySem.W PySem.Calls PyProof.Rows PySem.Spec
theorem isStr_eq {e : DictEntry} {x : Str} {t : Tok} (hk : e.key = .str x t) : e.key.isStr x = true := by rw [hk]; simp [Value.isStr]
theorem isStr_ne {e : DictEntry} {x y : Str} {t : Tok} (q : x ≠ y) (hk : e.key = .str y t) : e.key.isStr x = false := by rw [hk]; simpa [Value.isStr] using (Ne.symm q)
theorem getL_ne {e : DictEntry} {es : List DictEntry} {x y : Str} {t : Tok} {r : Option (Option Value)} (q : x ≠ y) (hk : e.key = .str y t) (h1 : getL x es = r) : getL x (e :: es) = r := by
  have e2 : e.refKey = false := by unfold DictEntry.refKey; rw [hk]
  unfold getL at h1 ⊢
  rw [List.find?_cons, isStr_ne q hk]
  simp only [List.any_cons, e2, Bool.false_or]
  exact h1
theorem lookup_ne' {x : Str} {p : Str × D} {fs : List (Str × D)} (q : x ≠ p.1) : (p :: fs).lookup x = fs.lookup x := by
  obtain ⟨y, d⟩ := p
  rw [List.lookup_cons, show (x == y) = false by simpa using q]
theorem repFs_get {φ : Store} {β : Addr} {x : Str} {d : D} {es : List DictEntry} {fs : List (Str × D)} (r : RepFs φ β es fs) (h : fs.lookup x = some d) : ∃ v, getL x es = some (some v) ∧ Rep φ β v d := by
  induction fs generalizing es with
  | nil => cases h
  | cons p fs ih =>
    obtain ⟨e, es', t, q0, hk, hr, r⟩ := r.cons_inv
    rw [q0]
    by_cases q : x = p.1
    · rw [q, List.lookup_cons_self] at h
      refine ⟨e.val, ?_, Option.some.inj h ▸ hr⟩
      unfold getL
      rw [List.find?_cons, isStr_eq (q ▸ hk)]
    · rw [lookup_ne' q] at h
      obtain ⟨v, h1, h2⟩ := ih r h
      exact ⟨v, getL_ne q hk h1, h2⟩
theorem repFs_none {φ : Store} {β : Addr} {x : Str} {es : List DictEntry} {fs : List (Str × D)} (r : RepFs φ β es fs) (h : fs.lookup x = none) : getL x es = some none ∧ (es.any (·.key.isStr x)) = false := by
  induction fs generalizing es with
  | nil => rw [r.nil_inv]; exact ⟨rfl, rfl⟩
  | cons p fs ih =>
    obtain ⟨e, es', t, q0, hk, hr, r⟩ := r.cons_inv
    rw [q0]
    by_cases q : x = p.1
    · rw [q, List.lookup_cons_self] at h; cases h
    · rw [lookup_ne' q] at h
      obtain ⟨h1, h2⟩ := ih r h
      exact ⟨getL_ne q hk h1, by rw [List.any_cons, isStr_ne q hk, h2]; rfl⟩
noncomputable def D.known : D → Bool
  | .any => false
  | _ => true
theorem handed_of {φ : Store} {β : Addr} {v : Value} {d : D} (h : Rep φ β v d) (hk : d.known = true) : handedIn v = true := by
  cases h <;> first | rfl | cases hk
section
variable {C : Cx} {F : Fm} {vars : Vars} {bs : BS}
theorem Cx.Ok.here {C : Cx} (ok : C.Ok) {Ψ φ : Store} {s : Shared} (G : GSt C Ψ φ bs s) : C.K.In s.heap := ok.kin.keeps G.keepH
theorem instAt {Ψ φ : Store} {s : Shared} {a Cl dx : Addr} {es : List DictEntry} {n : Nat} (G : GSt C Ψ φ bs s) (h1 : φ a = some (instObj Cl dx)) (h2 : s.heap.get? dx = some (dictOf es n)) : InstAt s.heap a (instObj Cl dx) Cl (some (dictOf es n)) :=
  ⟨G.fro _ _ h1, rfl, rfl, h2⟩
/-- the value under a name of an object -/
noncomputable def FieldOk (K : Frag) (Cl : Addr) (x : Str) : Prop := plainGet K Cl x = true ∧ hasDictIn K Cl = true ∧ ∃ attr, findIn K (.ref Cl) x = some attr ∧ noGet K attr = true
noncomputable def ClsFieldOk (K : Frag) (Cl : Addr) (x : Str) (a : Value) : Prop := plainGet K Cl x = true ∧ hasDictIn K Cl = true ∧ findIn K (.ref Cl) x = some (some a) ∧ specialIn K a "__get__" = some none ∧ handedIn a = true ∧ copiedNames.contains x = false
/-- what an object's name gives: its own field, or its class's -/
inductive AttrOf (C : Cx) (bs : BS) (x : Str) : D → D → Prop
  | own {Cl : Addr} {fs : List (Str × D)} {d : D} : FieldOk C.K Cl x → fs.lookup x = some d → d.known = true → AttrOf C bs x (.inst Cl fs) d
  | cls {Cl : Addr} {fs : List (Str × D)} {d : D} {a : Value} : ClsFieldOk C.K Cl x a → fs.lookup x = none → (∀ φ : Store, (∀ b o, C.H.get? b = some o → φ b = some o) → Rep φ C.β a d) → AttrOf C bs x (.inst Cl fs) d
  | sown {Cl : Addr} {fs : List (Str × D)} {d : D} : bs = some (.flds fs) → FieldOk C.K Cl x → fs.lookup x = some d → d.known = true → AttrOf C bs x (.self Cl) d
  | scls {Cl : Addr} {fs : List (Str × D)} {d : D} {a : Value} : bs = some (.flds fs) → ClsFieldOk C.K Cl x a → fs.lookup x = none → (∀ φ : Store, (∀ b o, C.H.get? b = some o → φ b = some o) → Rep φ C.β a d) → AttrOf C bs x (.self Cl) d
theorem getAttr_at {env : Env} {Ψ φ : Store} {ρ : Str → Option Value} {s : Shared} {A : Around} {x : Str} {v : Value} {d d' : D} {E : Value → Shared → Prop} {P : Value → Shared → Prop} (ok : C.Ok) (X : St C F env Ψ φ ρ vars bs s) (hv : Rep φ C.β v d) (h : AttrOf C bs x d d')
    (hP : ∀ u, Rep φ C.β u d' → P u { s with toks := s.toks + 1 }) : wpAny C.M A (getAttr v x true) P E s := by
  have X₀ := ok.here X.G
  cases h with
  | own hf hl hk =>
    obtain ⟨hg, hh, attr, ha, hn⟩ := hf
    obtain ⟨_, _, _, _, rfl, h1, h2, h3⟩ := Rep.inst_inv hv
    · skip
      obtain ⟨u, g1, g2⟩ := repFs_get h3 hl
      exact get_value X₀ (instAt X.G h1 (X.G.fro _ _ h2)) (plainGet_of hg).1 (findObj_own hh ha hn g1) (handed_of g2 hk) (hP u g2)
  | cls hf hl hr =>
    obtain ⟨hg, hh, ha, hn, hd, hc⟩ := hf
    obtain ⟨_, _, _, _, rfl, h1, h2, h3⟩ := Rep.inst_inv hv
    exact get_value X₀ (instAt X.G h1 (X.G.fro _ _ h2)) (plainGet_of hg).1 (findObj_cls hh ha hn hd hc (repFs_none h3 hl).1) hd (hP _ (hr φ X.G.base))
  | sown hb hf hl hk =>
    obtain ⟨hg, hh, attr, ha, hn⟩ := hf
    obtain ⟨_, rfl, h1⟩ := Rep.self_inv hv
    · skip
      obtain ⟨⟨es, n, h2, h3⟩, _⟩ := X.G.box _ hb
      obtain ⟨u, g1, g2⟩ := repFs_get h3 hl
      exact get_value X₀ (instAt X.G h1 h2) (plainGet_of hg).1 (findObj_own hh ha hn g1) (handed_of g2 hk) (hP u g2)
  | scls hb hf hl hr =>
    obtain ⟨hg, hh, ha, hn, hd, hc⟩ := hf
    obtain ⟨_, rfl, h1⟩ := Rep.self_inv hv
    · skip
      obtain ⟨⟨es, n, h2, h3⟩, _⟩ := X.G.box _ hb
      exact get_value X₀ (instAt X.G h1 h2) (plainGet_of hg).1 (findObj_cls hh ha hn hd hc (repFs_none h3 hl).1) hd (hP _ (hr φ X.G.base))
theorem Ev_attr {x y : Str} {p pos : Pos} {d d' : D} {Q : BS → R → Prop} (ok : C.Ok) (hv : vars.lookup y = some (.val d)) (hk : isVar F.sc y = true) (ha : AttrOf C bs x d d') (h : Q bs (.val d')) : Ev C F vars bs (.Attribute (.Name y p) x pos) Q :=
  ⟨fun A env Ψ φ ρ s hA X => by
    obtain ⟨v, h1, h2⟩ := X.F.val y d hv
    exact Attribute_any_ (name_at X h1 (getAttr_at ok X h2 ha fun u hu => ⟨φ, bs, .val d', Store.Le.refl φ, X.tick, hu, h⟩) hk)⟩
/-- a method of an object -/
structure MethOk (K : Frag) (Cl : Addr) (name : Str) (f : Addr) : Prop where
  plain : plainGet K Cl name = true
  find : findIn K (.ref Cl) name = some (some (.ref f))
  fn : isFn K (.ref f) = true
  keep : keepIn K (.ref f) = true
theorem plain_args {pos : Pos} {env : Env} : ∀ {es : List Expr}, es.all notStar = true → (backTo pos (starEach es env)).any (·.1) = false ∧ (backTo pos (starEach es env)).all (fun x => !x.1) = true
  | [], _ => ⟨rfl, rfl⟩
  | e :: es, h => by
    obtain ⟨h1, h2⟩ := Bool.and_eq_true_iff.mp (List.all_cons ▸ h)
    obtain ⟨i1, i2⟩ := plain_args (pos := pos) (env := env) h2
    rw [starEach_plain h1]
    exact ⟨by show (false || (backTo pos (starEach es env)).any (·.1)) = false; rw [i1]; rfl, by show ((!false) && (backTo pos (starEach es env)).all (fun x => !x.1)) = true; rw [i2]; rfl⟩
theorem callWith_ok {A : Around} {pos : Pos} {f : Value} {first : List Value} {e : Expr} {es : List Expr} {env : Env} {Ψ φ : Store} {ρ : Str → Option Value} {s : Shared} {Q : BS → List D → Prop} {P : Value → Shared → Prop} (ok : C.Ok) (hk : keepIn C.K f = true) (hA : AOk F.n A) (X : St C F env Ψ φ ρ vars bs s) (h : EvD C F vars bs (e :: es) Q) (hs : (e :: es).all notStar = true)
    (hP : ∀ vs s' φ' bs' ds, φ.Le φ' → St C F env Ψ φ' ρ vars bs' s' → Reps φ' C.β vs ds → Q bs' ds → wpAny C.M A (call f (first ++ vs) []) P (fun _ _ => False) s') : wpAny C.M A (callWith pos f first (backTo pos (starEach (e :: es) env)) []) P (fun _ _ => False) s := by
  obtain ⟨h1, h2⟩ := Bool.and_eq_true_iff.mp (List.all_cons ▸ hs)
  refine callWith_K (h₀ := s.heap) (ok.here X.G) hk ?_ (starEach_plain h1) (plain_args h2).1
  exact wpAny_mono (h.run A env Ψ φ ρ s pos hA X) (fun vs s' ⟨φ', bs', ds, le, X', hr, hq⟩ => ⟨ok.here X'.G, hP vs s' φ' bs' ds le X' hr hq⟩) fun _ _ x => x
theorem methodCall_at {A : Around} {env : Env} {s : Shared} {y name : Str} {p p1 pos : Pos} {e : Expr} {es : List Expr} {P E : Value → Shared → Prop} (hs : (e :: es).all notStar = true) (hl : (p1.endLine == pos.line) = true) (hlen : es.length < 20)
    (h : ∀ pl, wpAny C.M A (eval (.Name y p) env) (fun ov s₁ => wpAny C.M A (getMethod ov name pl) (fun fx s₂ => wpAny C.M A (callWith pos fx.1 fx.2 (backTo pos (starEach (e :: es) env)) []) P E s₂) E s₁) E s) :
    wpAny C.M A (eval (.Call (.Attribute (.Name y p) name p1) (e :: es) [] pos) env) P E s := by
  rw [arm_eval_Call]
  have hbase : attributeBase (.Name y p) name env (eval (.Name y p) env) = eval (.Name y p) env := rfl
  have hform : methodCallForm ((e :: es).length + ([] : List Keyword).length) (backTo pos (starEach (e :: es) env)) (backToKw pos (keywordEach [] env)) = true := by
    unfold methodCallForm
    rw [(plain_args hs).2]
    simp only [List.length_cons, List.length_nil, Bool.true_and]
    show ((true : Bool) && decide (es.length + 1 + 0 + 0 < 30)) = true
    simp; omega
  have hpos : methodCallPos true (.Name y p) env p1 pos = pure pos := by unfold methodCallPos; simp [hl]
  rw [hbase]
  refine wpAny_bind (wpAny_mono (h (do return (← importBound (.Name y p) env).getD true)) (fun ov s₁ h₁ => wpAny_bind (wpAny_standAt ?_)) fun _ _ x => x)
  unfold methodCall
  rw [hform]
  refine wpAny_bind (wpAny_holding ?_)
  show wpAny _ _ (getMethod ov name _) _ _ _
  refine wpAny_mono h₁ (fun fx s₂ h₂ => ?_) fun _ _ x => x
  exact wpAny_bind (wpAny_of_eq hpos h₂)
theorem Ev_meth {x y : Str} {f Cl : Addr} {fs : List (Str × D)} {e : Expr} {es : List Expr} {p p1 pos : Pos} {n : Nat} {Q : BS → R → Prop} (ok : C.Ok) (hv : vars.lookup y = some (.val (.inst Cl fs))) (hk : isVar F.sc y = true) (hm : MethOk C.K Cl x f) (hfs : fs.lookup x = none)
    (h : EvD C F vars bs (e :: es) fun b ds => Fn C n (.ref f) (.inst Cl fs :: ds) b Q) (hn : n ≤ F.n) (hs : (e :: es).all notStar = true) (hl : (p1.endLine == pos.line) = true) (hlen : es.length < 20) :
    Ev C F vars bs (.Call (.Attribute (.Name y p) x p1) (e :: es) [] pos) Q :=
  ⟨fun A env Ψ φ ρ s hA X => by
    obtain ⟨v, h1, h2⟩ := X.F.val y _ hv
    refine methodCall_at hs hl hlen fun pl => name_at X h1 ?_ hk
    obtain ⟨_, _, _, _, rfl, g1, g2, g3⟩ := Rep.inst_inv h2
    · skip
      obtain ⟨hg, hf, ht, hkp⟩ := hm
      refine method_fn (ok.here X.G) (instAt X.G g1 (X.G.fro _ _ g2)) (plainGet_of hg).1 (plainGet_of hg).2 hf (beq_iff_eq.mp ht) (by show (lookIn x (dictOf _ _)).map _ = _; rw [lookIn_dict, (repFs_none g3 hfs).1]; rfl) ?_
      refine callWith_ok ok hkp hA X h hs fun vs s' φ' bs' ds le X' hr hq => ?_
      exact wpAny_mono (call_in (vs := _ :: vs) hA hn X' (.cons ((Rep.inst g1 g2 g3).mono le) hr) hq) (fun v s'' ⟨φ'', b, r, le2, X'', h2, q⟩ => ⟨φ'', b, r, le.trans le2, X'', h2, q⟩) fun _ _ x => x⟩
/-- a function of a class, asked for by the class -/
structure ClsFn (K : Frag) (Cl : Addr) (x : Str) (f : Addr) : Prop where
  ga : specialIn K (.ref Cl) "__getattribute__" = some (some (.builtin "type.__getattribute__"))
  mc : ∃ mc, readsIn K Cl mc = true ∧ findCls K (.ref Cl) mc x = some (.val (.ref f))
  keep : keepIn K (.ref f) = true
theorem Ev_clsfn {x y : Str} {f Cl : Addr} {e : Expr} {es : List Expr} {p p1 pos : Pos} {n : Nat} {Q : BS → R → Prop} (ok : C.Ok) (hf : C.mg y = some (.ref Cl)) (hk : F.sc.names.lookup y = some .globalImplicit) (hdb : (y == ("__debug__" : Str)) = false) (hm : ClsFn C.K Cl x f)
    (h : EvD C F vars bs (e :: es) fun b ds => Fn C n (.ref f) ds b Q) (hn : n ≤ F.n) (hs : (e :: es).all notStar = true) (hl : (p1.endLine == pos.line) = true) (hlen : es.length < 20) :
    Ev C F vars bs (.Call (.Attribute (.Name y p) x p1) (e :: es) [] pos) Q :=
  ⟨fun A env Ψ φ ρ s hA X => by
    refine methodCall_at hs hl hlen fun pl => global_at ok X hf hk hdb ?_
    obtain ⟨hg, ⟨mc, h1, h2⟩, hkp⟩ := hm
    refine method_cls (ok.here X.G) hg (cls_value (ok.here X.G) h1 h2 rfl ?_)
    refine callWith_ok ok hkp hA X.tick h hs fun vs s' φ' bs' ds le X' hr hq => ?_
    exact wpAny_mono (call_in (vs := vs) hA hn X' hr hq) (fun v s'' ⟨φ'', b, r, le2, X'', h2, q⟩ => ⟨φ'', b, r, le.trans le2, X'', h2, q⟩) fun _ _ x => x⟩
/-- a class that is called by its name, or a function -/
theorem Ev_callK {y : Str} {f : Addr} {e : Expr} {es : List Expr} {p pos : Pos} {n : Nat} {Q : BS → R → Prop} (ok : C.Ok) (hf : C.mg y = some (.ref f)) (hkp : keepIn C.K (.ref f) = true) (hk : F.sc.names.lookup y = some .globalImplicit) (hdb : (y == ("__debug__" : Str)) = false)
    (h : EvD C F vars bs (e :: es) fun b ds => Fn C n (.ref f) ds b Q) (hn : n ≤ F.n) (hs : (e :: es).all notStar = true) :
    Ev C F vars bs (.Call (.Name y p) (e :: es) [] pos) Q :=
  ⟨fun A env Ψ φ ρ s hA X => by
    show wpAny C.M A (do callWith pos (← eval (.Name y p) env) [] (backTo pos (starEach (e :: es) env)) []) _ _ s
    refine wpAny_bind (global_at ok X hf hk hdb ?_)
    refine callWith_ok ok hkp hA X h hs fun vs s' φ' bs' ds le X' hr hq => ?_
    exact wpAny_mono (call_in (vs := vs) hA hn X' hr hq) (fun v s'' ⟨φ'', b, r, le2, X'', h2, q⟩ => ⟨φ'', b, r, le.trans le2, X'', h2, q⟩) fun _ _ x => x⟩
end
end Mine
end
section
set_option maxRecDepth 100000
set_option linter.unusedVariables false
namespace Mine
open PySem PySem.W PySem.Calls PyProof.Rows PySem.Spec
section
variable {prog : Program} {w : World} {A : Around} {K : Frag} {Cl x : Addr} {s : Shared} {R : Result → Shared → Prop}
theorem osa_direct {dx : Addr} {name : Str} {tk : Tok} {v : Value} {es : List DictEntry} {n : Nat} (X : K.In s.heap)
    (I : InstAt s.heap x (instObj Cl dx) Cl (some (dictOf es n))) (hp : plainOver K Cl = true) (ht : takerIn K Cl name = some none) (hh : hasDictIn K Cl = true)
    (hl : (getL name es).isSome = true) (hz : es.length ≤ 900)
    (h : ∀ h', (∀ b, b ≠ dx → h'.get? b = s.heap.get? b) → h'.get? dx = some (dictOf (putL name (PyData.keyHash w.params name) (.str name s.toks) v es) (putN name es n)) → R (.ok (.ret .none)) { s with heap := h', toks := s.toks + 1 }) :
    codeAny (model prog w) A (.call (.builtin "object.__setattr__") ⟨[.ref x, .str name tk, v], []⟩) R s := by
  refine osa_open X I hp ht fun b => ?_
  obtain ⟨cd, hc, hd'⟩ := any_some hh
  have D : s.heap.get? dx = some (dictOf es n) := I.dict
  have D' : (s.heap.update dx (Obj.putName name (PyData.keyHash w.params name) (.str name s.toks) v)).get? dx = some (dictOf (putL name (PyData.keyHash w.params name) (.str name s.toks) v es) (putN name es n)) := by
    rw [Heap.get?_update_self _ D (by rw [putName_dict]; rfl), putName_dict]
  obtain ⟨hx, hcl, hn, -⟩ := I
  refine wpAny_bind (wpAny_pure (wpAny_bind (wpAny_bind (wpAny_loadPart hx (wpAny_bind ((looks_clsIn X hc).here ?_))))))
  rw [hd']
  refine wpAny_pure (a := some dx) (wpAny_bind (wpAny_pure (wpAny_bind ?_)))
  unfold nsSet
  refine wpAny_bind (wpAny_bind (wpAny_askSetting (wpAny_pure (wpAny_bind (wpAny_mkText (wpAny_bind (wpAny_loadPart D ?_)))))))
  show wpAny _ _ (if aRefKeyMayBeTheName name es.toArray = true then _ else _) _ _ _
  have c : (!es.toArray.any (·.key.isStr name) && es.toArray.any (·.refKey)) = false := by
    rw [← Array.any_toList, ← Array.any_toList]
    unfold getL at hl
    split at hl
    · rename_i en he
      show (!es.any _ && es.any _) = false
      rw [List.any_eq_true.mpr ⟨en, List.mem_of_find?_eq_some he, List.find?_some he⟩]; rfl
    · split at hl
      · cases hl
      · rename_i z
        show (!es.any _ && es.any _) = false
        rw [Bool.not_eq_true] at z; rw [z, Bool.and_false]
  rw [aRefKeyMayBeTheName_at, c]
  have len : (putL name (PyData.keyHash w.params name) (.str name s.toks) v es).length ≤ es.length + 1 := by
    generalize PyData.keyHash w.params name = hs
    clear hl hz h D D' c X hp ht hh
    induction es with
    | nil => exact Nat.le_refl _
    | cons e r ih =>
      unfold putL
      split
      · simp
      · rw [List.length_cons, List.length_cons]; omega
  refine wpAny_updatePart D ?_
  refine wpAny_bind (wpAny_lookBehind D' (pastItsLine_dict (by rw [List.size_toArray, sizeLine_eq]; omega)) ?_)
  exact wpAny_pure (h _ (fun b q => Heap.get?_update_other _ _ (Ne.symm q)) D')
end
theorem putL_new {φ : Store} {β : Addr} {x : Str} {hsh : Int} {t : Tok} {v : Value} {d : D} (hv : Rep φ β v d) {es : List DictEntry} {fs : List (Str × D)} (r : RepFs φ β es fs) (h : fs.lookup x = none) : RepFs φ β (putL x hsh (.str x t) v es) (fs ++ [(x, d)]) := by
  induction fs generalizing es with
  | nil => rw [r.nil_inv]; exact .cons rfl hv .nil
  | cons p fs ih =>
    obtain ⟨e, es', t, q0, hk, hr, r⟩ := r.cons_inv
    rw [q0]
    by_cases q : x = p.1
    · rw [q, List.lookup_cons_self] at h; cases h
    · rw [lookup_ne' q] at h
      unfold putL
      rw [isStr_ne q hk, if_neg (by decide)]
      exact .cons hk hr (ih r h)
theorem repFs_len {φ : Store} {β : Addr} {es : List DictEntry} {fs : List (Str × D)} (r : RepFs φ β es fs) : es.length = fs.length := by
  induction fs generalizing es with
  | nil => rw [r.nil_inv]; rfl
  | cons p fs ih =>
    obtain ⟨e, es', t, q0, hk, hr, r⟩ := r.cons_inv
    rw [q0]; exact congrArg (· + 1) (ih r)
structure StoreOk (K : Frag) (Cl : Addr) (x : Str) : Prop where
  set : findIn K (.ref Cl) "__setattr__" = some (some (.builtin "object.__setattr__"))
  over : plainOver K Cl = true
  taker : takerIn K Cl x = some none
  dict : hasDictIn K Cl = true
section
variable {C : Cx} {F : Fm} {vars : Vars} {bs : BS}
/-- the shared thing is changed -/
theorem St.setBox {env : Env} {Ψ φ : Store} {ρ : Str → Option Value} {s : Shared} {p q : BX} {h : Heap} {tk : Nat} (X : St C F env Ψ φ ρ vars (some p) s) (hb : ∃ o, s.heap.get? C.β = some o ∧ ((∃ es n, o = dictOf es n ∧ C.β ≠ env.locals) ∨ ∃ us n, o = listOf us n))
    (hm : ∀ x es, vars.lookup x = some (.mu es) → ρ x ≠ some (.ref C.β)) (hc : ∀ x c, env.cells.lookup x = some c → c ≠ C.β)
    (hk : ∀ b, b ≠ C.β → h.get? b = s.heap.get? b) (hq : BoxIs h φ C.β q) : St C F env Ψ φ ρ vars (some q) { s with heap := h, toks := tk } := by
  obtain ⟨_, pφ, pΨ⟩ := X.G.box p rfl
  refine ⟨⟨X.G.base, fun b o e => ?_, fun b o e => ?_, X.G.sep, hq.obj, fun p' e => ?_, same_step X.G.same⟩, X.F.sc, X.F.kind, X.F.glob, X.F.blt, ?_, X.F.loc, ?_, ?_, X.F.fr, X.F.val, ?_, X.F.dis⟩
  · show h.get? b = some o
    rw [hk b (fun q => by rw [q, pφ] at e; cases e)]; exact X.G.fro b o e
  · show h.get? b = some o
    rw [hk b (fun q => by rw [q, pΨ] at e; cases e)]; exact X.G.pro b o e
  · cases e; exact ⟨hq, pφ, pΨ⟩
  · obtain ⟨m, ⟨o, es, ep, h1, h2, h3⟩, h4⟩ := X.F.ns
    exact ⟨m, ⟨o, es, ep, (hk _ X.F.loc.2.2).trans h1, h2, h3⟩, h4⟩
  · intro x v e1 e2
    obtain ⟨c, h1, o, h2, h3⟩ := X.F.cell x v e1 e2
    exact ⟨c, h1, o, (hk _ (hc x c h1)).trans h2, h3⟩
  · intro x hx
    obtain ⟨c, v, h1, ⟨o, h2, h3⟩, h4⟩ := X.F.own x hx
    exact ⟨c, v, h1, ⟨o, (hk _ (hc x c h1)).trans h2, h3⟩, h4⟩
  · intro x ds e
    obtain ⟨a, vs, n, h1, h2, h3, h4, h5, h6⟩ := X.F.mu x ds e
    exact ⟨a, vs, n, h1, (hk _ h6).trans h2, h3, h4, h5, h6⟩
theorem St.boxFree {env : Env} {Ψ φ : Store} {ρ : Str → Option Value} {s : Shared} {p : BX} (X : St C F env Ψ φ ρ vars (some p) s) : (∀ x es, vars.lookup x = some (.mu es) → ρ x ≠ some (.ref C.β)) ∧ (∀ x c, env.cells.lookup x = some c → c ≠ C.β) := by
  obtain ⟨_, pφ, pΨ⟩ := X.G.box p rfl
  refine ⟨fun x es e q => ?_, fun x c e q => ?_⟩
  · obtain ⟨a, vs, n, h1, _, _, _, _, h6⟩ := X.F.mu x es e
    rw [h1] at q; cases q; exact h6 rfl
  · by_cases hx : x ∈ F.ow
    · obtain ⟨c', v, h1, _, _, _, h5, _⟩ := X.F.own x hx
      rw [h1] at e; cases e; exact h5 q
    · obtain ⟨o, ho⟩ := X.F.fr x c e hx
      rw [q, pΨ] at ho; cases ho
/-- self.x = e, a new name -/
theorem Ex1_setattr {x y : Str} {p p1 pos : Pos} {Cl : Addr} {e : Expr} {Q : Vars → BS → Fl → Prop} (ok : C.Ok) (hv : vars.lookup y = some (.val (.self Cl))) (hk : isVar F.sc y = true) (hs : StoreOk C.K Cl x) (hc : true = true)
    (h : Ev C F vars bs e fun b r => ValK (fun d => ∃ fs, b = some (.flds fs) ∧ fs.lookup x = none ∧ fs.length ≤ 800 ∧ Q vars (some (.flds (fs ++ [(x, d)]))) .next) r.norm) :
    Ex1 C F vars bs (.Assign [.Attribute (.Name y p) x p1] e pos) Q :=
  ⟨fun A env Ψ φ ρ s hA X => by
    refine plainObj_wpAny_Assign_Attribute (wpAny_mono (one (K := fun b r => ValK (fun d => ∃ fs, b = some (.flds fs) ∧ fs.lookup x = none ∧ fs.length ≤ 800 ∧ Q vars (some (.flds (fs ++ [(x, d)]))) .next) r) h hA X) (fun v s1 ⟨φ1, b1, r, le1, X1, h1, k1⟩ => ?_) fun _ _ x => x) (by cases e <;> rfl)
    revert h1 k1
    generalize r.norm = r
    intro h1 k1
    cases r with
    | val d =>
      obtain ⟨fs, rfl, hn, hz, hq⟩ := k1
      obtain ⟨u, g1, g2⟩ := X1.F.val y _ hv
      refine name_at X1 g1 ?_ hk
      obtain ⟨_, rfl, g3⟩ := Rep.self_inv g2
      · skip
        obtain ⟨⟨es, n, b1, b2⟩, pφ, pΨ⟩ := X1.G.box _ rfl
        have hI := instAt X1.G g3 b1
        have X2 := X1.tick (tk := s1.toks + 1)
        obtain ⟨z1, z2⟩ := repFs_none b2 hn
        refine set_plain (ok.here X1.G) hI hs.set (osa_direct (s := { s1 with toks := s1.toks + 1 }) (ok.here X2.G) hI hs.over hs.taker hs.dict (by rw [z1]; rfl) (by rw [repFs_len b2]; omega) fun h' hk' hd' => ?_)
        obtain ⟨m1, m2⟩ := X1.boxFree
        refine ⟨φ1, ρ, vars, some (.flds (fs ++ [(x, d)])), .next, le1, X1.setBox (tk := s1.toks + 1 + 1) ⟨_, b1, .inl ⟨_, _, rfl, Ne.symm X1.F.loc.2.2⟩⟩ m1 m2 hk' ⟨_, _, hd', putL_new h1 b2 hn⟩, trivial, hq⟩
    | _ => exact k1.elim⟩
noncomputable def D.forget : D → D
  | .none => .none
  | .bool b => .bool b
  | .int i => .int i
  | .bytes ns => .bytes ns
  | _ => .any
theorem Rep.forget {φ : Store} {β β' : Addr} {v : Value} {d : D} (h : Rep φ β v d) : Rep φ β' v d.forget := by
  cases h with
  | none => exact .none
  | bool b => exact .bool b
  | int i t => exact .int i t
  | bytes t e => exact .bytes t e
  | _ => exact .any _
theorem RepFs.forget {φ : Store} {β β' : Addr} {es : List DictEntry} {fs : List (Str × D)} (r : RepFs φ β es fs) : RepFs φ β' es (fs.map fun p => (p.1, p.2.forget)) := by
  induction fs generalizing es with
  | nil => rw [r.nil_inv]; exact .nil
  | cons p fs ih =>
    obtain ⟨e, es', t, q0, hk, hr, r⟩ := r.cons_inv
    rw [q0]; exact .cons hk hr.forget (ih r)
noncomputable def D.flat : D → Bool
  | .none | .bool _ | .int _ | .bytes _ | .any => true
  | _ => false
theorem forget_flat {d : D} (h : d.flat = true) : d.forget = d := by cases d <;> first | rfl | cases h
theorem Reps.flat {φ : Store} {β β' : Addr} {vs : List Value} {ds : List D} (r : Reps φ β vs ds) (k : ds.all D.flat = true) : Reps φ β' vs ds := by
  induction ds generalizing vs with
  | nil => rw [Reps.nil_inv r]; exact .nil
  | cons d ds ih =>
    obtain ⟨v, ws, e, q, r⟩ := Reps.cons_inv r
    obtain ⟨k1, k2⟩ := Bool.and_eq_true_iff.mp (List.all_cons ▸ k)
    rw [e]; exact .cons (forget_flat k1 ▸ q.forget) (ih r k2)
abbrev Cx.at (C : Cx) (β : Addr) : Cx := { C with β := β }
theorem Cx.Ok.at {C : Cx} (ok : C.Ok) (β : Addr) : (C.at β).Ok := ⟨ok.g, ok.b, ok.builtins, ok.nolimit, ok.kin⟩
theorem type_call_weight (a : Addr) (tail : List Value) (kw : List (Str × Value)) : (Code.builtin "type.__call__" ⟨.ref a :: tail, kw⟩).weight = 1 := by kernel_rfl
theorem type_call_units (a : Addr) (tail : List Value) (kw : List (Str × Value)) : (Code.builtin "type.__call__" ⟨.ref a :: tail, kw⟩).cUnits = 1 := by kernel_rfl
theorem AOk.make {n : Nat} {A : Around} {a : Addr} {tail : List Value} {kw : List (Str × Value)} (h : AOk (n + 1) A) : AOk n (A.under (.builtin "type.__call__" ⟨.ref a :: tail, kw⟩)) := by
  refine ⟨h.1, ?_, ?_⟩
  · show A.depth + _ + _ + _ < _
    rw [type_call_weight]; have := h.2.1; omega
  · show A.units + _ + _ + _ < _
    rw [type_call_units]; have := h.2.2; omega
theorem Fn_class {Cl fI : Addr} {ds : List D} {n : Nat} {Q : BS → R → Prop} (ok : C.Ok) (hm : makesIn C.K Cl = true) (hi : findIn C.K (.ref Cl) "__init__" = some (some (.ref fI))) (hf : isFn C.K (.ref fI) = true) (hflat : ds.all D.flat = true)
    (h : ∀ β, Fn (C.at β) n (.ref fI) (.self Cl :: ds) (some (.flds [])) fun b r => r = .val .none ∧ ∃ fs, b = some (.flds fs) ∧ Q bs (.val (.inst Cl (fs.map fun p => (p.1, p.2.forget))))) : Fn C (n + 1) (.ref Cl) ds bs Q :=
  ⟨fun A Ψ φ s vs hA G hr => by
    have X := ok.here G
    obtain ⟨hh, g, d, t, os⟩ := s
    refine make_core (makes_of X hm) (looks_findIn X hi) (fun self => bind_fn X self (beq_iff_eq.mp hf)) (.inl rfl) ?_
    have nx : hh.get? (hh.objs.size + 1) = none := get?_ge (Nat.le_succ _)
    have nd : hh.get? hh.objs.size = none := get?_ge (Nat.le_refl _)
    have k : ∀ b o, hh.get? b = some o → ((hh.push emptyDict).push (instObj Cl hh.objs.size)).get? b = some o := fun b o e => Heap.get?_push_of_some _ (Heap.get?_push_of_some _ e)
    have hx : ((hh.push emptyDict).push (instObj Cl hh.objs.size)).get? (hh.objs.size + 1) = some (instObj Cl hh.objs.size) := by heap_get
    have hd : ((hh.push emptyDict).push (instObj Cl hh.objs.size)).get? hh.objs.size = some (dictOf [] 0) := by heap_get
    have G1 : GSt C Ψ φ bs ⟨(hh.push emptyDict).push (instObj Cl hh.objs.size), g, d, t, os⟩ := G.grow (tk := t) k
    have bn : ∀ a, hh.get? a = none → a ≠ C.β := by
      rintro a e rfl
      obtain ⟨o', e'⟩ := G.bex
      rw [show hh.get? C.β = some o' from e'] at e; cases e
    have G2 := G1.freeze hx (G.new nx).1 (G.new nx).2 (bn _ nx)
    obtain ⟨ob, hob⟩ := G1.bex
    have le1 : φ.Le (φ.put (hh.objs.size + 1) (instObj Cl hh.objs.size)) := Store.le_put (G.new nx).1
    -- the shared thing of the caller is protected, the new dict is the shared thing of the callee
    have dne : hh.objs.size ≠ hh.objs.size + 1 := by omega
    have key : ∃ Ψ' : Store, Ψ.Le Ψ' ∧ (φ C.β = none → Ψ' C.β = some ob) ∧ GSt (C.at hh.objs.size) Ψ' (φ.put (hh.objs.size + 1) (instObj Cl hh.objs.size)) (some (.flds [])) ⟨(hh.push emptyDict).push (instObj Cl hh.objs.size), g, d, t, os⟩ := by
      have phid : (φ.put (hh.objs.size + 1) (instObj Cl hh.objs.size)) hh.objs.size = none := by unfold Store.put; rw [if_neg dne]; exact (G.new nd).1
      have boxd : BoxIs ((hh.push emptyDict).push (instObj Cl hh.objs.size)) (φ.put (hh.objs.size + 1) (instObj Cl hh.objs.size)) hh.objs.size (.flds []) := ⟨[], 0, hd, .nil⟩
      cases hb : φ C.β with
      | some o => exact ⟨Ψ, fun b o e => e, fun e => (nomatch e), ⟨G2.base, G2.fro, G2.pro, G2.sep, ⟨_, hd⟩, fun p e => by cases e; exact ⟨boxd, phid, (G.new nd).2⟩, G2.same⟩⟩
      | none =>
        have bφ : (φ.put (hh.objs.size + 1) (instObj Cl hh.objs.size)) C.β = none := by unfold Store.put; rw [if_neg (Ne.symm (bn _ nx))]; exact hb
        refine ⟨Ψ.put C.β ob, fun b o e => ?_, fun _ => Store.put_self .., ⟨G2.base, G2.fro, fun b o e => ?_, fun b o e => ?_, ⟨_, hd⟩, fun p e => by cases e; exact ⟨boxd, phid, by unfold Store.put; rw [if_neg (bn _ nd)]; exact (G.new nd).2⟩, G2.same⟩⟩
        · unfold Store.put
          split
          · rename_i q; have := G1.pro b o e; rw [q, hob] at this; exact this
          · exact e
        · unfold Store.put at e
          split at e
          · rename_i q; cases e; rw [q]; exact hob
          · exact G2.pro b o e
        · unfold Store.put
          split
          · rename_i q; rw [q, bφ] at e; cases e
          · exact G2.sep b o e
    obtain ⟨Ψ', leΨ, hprot, G3⟩ := key
    have run := (h hh.objs.size).run _ Ψ' _ _ (.ref (hh.objs.size + 1) :: vs) (hA.make (a := Cl) (tail := vs) (kw := [])) G3 (.cons (.self (Store.put_self ..)) ((hr.mono le1).flat hflat))
    refine codeAny_mono run fun r s' z => ?_
    rcases r with e | (v | _ | _ | _) <;> first | exact z.elim | skip
    obtain ⟨φ', b', r, le2, G4, hv, rfl, fs, rfl, hq⟩ := z
    obtain ⟨⟨es, n', b1, b2⟩, pφ, pΨ⟩ := G4.box _ rfl
    refine ⟨by rw [Rep.none_inv hv], ?_⟩
    have un : ∀ b, Ψ' b = none → Ψ b = none := fun b e => by
      cases q : Ψ b with
      | none => rfl
      | some o => rw [leΨ b o q] at e; cases e
    have leD : φ'.Le (φ'.put hh.objs.size (dictOf es n')) := Store.le_put pφ
    have kb : s'.heap.get? C.β = some ob ∧ (φ C.β = none → φ' C.β = none) := by
      cases hb : φ C.β with
      | some o =>
        have e1 := G1.fro _ _ hb
        rw [hob] at e1
        exact ⟨(G4.fro _ _ (le2 _ _ (le1 _ _ hb))).trans e1.symm, fun e => (nomatch e)⟩
      | none =>
        have ho := hprot hb
        refine ⟨G4.pro _ _ ho, fun _ => ?_⟩
        cases q2 : φ' C.β with
        | none => rfl
        | some o2 => rw [G4.sep _ _ q2] at ho; cases ho
    refine ⟨φ'.put hh.objs.size (dictOf es n'), bs, .val (.inst Cl (fs.map fun p => (p.1, p.2.forget))), (le1.trans le2).trans leD, ?_, Rep.inst (leD _ _ (le2 _ _ (Store.put_self ..))) (Store.put_self ..) ((b2.mono leD).forget), hq⟩
    have bne : hh.objs.size ≠ C.β := bn _ nd
    refine ⟨fun b o e => leD _ _ (G4.base b o e), fun b o e => ?_, fun b o e => G4.pro b o (leΨ b o e), fun b o e => ?_, ?_, fun p e => ?_, ?_⟩
    · unfold Store.put at e
      split at e
      · rename_i q; cases e; rw [q]; exact b1
      · exact G4.fro b o e
    · unfold Store.put at e
      split at e
      · rename_i q; rw [q]; exact (G.new nd).2
      · exact un b (G4.sep b o e)
    · exact ⟨ob, kb.1⟩
    · obtain ⟨c1, c2, c3⟩ := G1.box p e
      obtain ⟨k1, k2⟩ := kb
      refine ⟨c1.keep (fun o ho => by rw [hob] at ho; exact k1.trans ho) ((le1.trans le2).trans leD), ?_, c3⟩
      unfold Store.put; rw [if_neg (Ne.symm bne)]; exact k2 c2
    · exact G4.same⟩
end
end Mine
end
section
set_option maxRecDepth 100000
set_option linter.unusedVariables false
namespace Mine
open PySem PySem.W PySem.Calls PyProof.Rows PySem.Spec
section
variable {prog : Program} {w : World} {A : Around} {E : Value → Shared → Prop} {s : Shared}
theorem setItem_at {l : Addr} {items : Array Value} {m : Nat} {k : Int} {t : Tok} {v : Value} {Q : Unit → Shared → Prop} (ho : s.heap.get? l = some (listOf items m))
    (h0 : 0 ≤ k) (hfit : k < 2 ^ 63) (hn : k < items.size)
    (hQ : ∀ h', h'.get? l = some (listOf (items.setIfInBounds k.toNat v) m) → Heap.SameBut l s.heap h' → Q () { s with heap := h' }) :
    wpAny (model prog w) A (setItem (.ref l) (.int k t) v) Q E s := by
  have hl : s.heap.IsList l items := IsListOf ho
  unfold setItem
  try with_reducible refine wpAny_holding ?_
  first | refine wpAny_bind (wpAny_pure ?_) | skip
  refine wpAny_bind (wpAny_sequenceKey hl.typeIs (by decide) ?_)
  refine wpAny_bind (wpAny_callSpecial?_slot (name := Str.ofString "__setitem__") hl.typeIs slot_list_setitem
    (wpAny_call_entry slot_list_setitem hl.typeIs entry_list_setitem ?_ (args_list_setitem _ _ _)))
  show wpAny _ _ (Builtin.List.listSubscript? (.int k t) >>= _) _ _ s
  refine wpAny_bind (wpAny_listSubscript_int (fitsIndex_of h0 hfit) ?_)
  clear hfit
  obtain ⟨j, rfl⟩ := Int.eq_ofNat_of_zero_le h0
  have hj : j < items.size := by omega
  have hx' : items[j]? = some items[j] := Array.getElem?_eq_getElem hj
  show wpAny _ _ ((seqItemAt l j >>= fun r => pure (r.map (j, ·))) >>= _) _ _ s
  refine wpAny_bind (wpAny_bind (wpAny_seqItemAt ho rfl (wpAny_pure ?_)))
  rw [hx']
  show wpAny _ _ (setSeqItemAt l j v >>= _) _ _ s
  have hfin : (s.heap.update l (Obj.mapSeq (·.setIfInBounds j v))).get? l = some (listOf (items.setIfInBounds j v) m) :=
    (Heap.get?_update_self (Obj.mapSeq (·.setIfInBounds j v)) ho (Obj.isFreed_of_seq (Obj.data_mapSeq (o := listOf items m) rfl (·.setIfInBounds j v)).choose_spec)).trans (by show some (Obj.mapSeq _ (listOf items m)) = _; simp [Obj.mapSeq])
  refine wpAny_bind (wpAny_setSeqItemAt ho rfl ?_)
  first
    | exact wpAny_bind (wpAny_pure (wpAny_pure ⟨.none, rfl, wpAny_pure (hQ _ hfin (Heap.SameBut.update ..))⟩))
    | exact wpAny_pure ⟨.none, rfl, wpAny_pure (hQ _ hfin (Heap.SameBut.update ..))⟩
end
section
variable {C : Cx} {F : Fm} {vars : Vars} {bs : BS}
/-- x[i] = e -/
theorem Ex1_setitem {x : Str} {p pos p1 : Pos} {i e : Expr} {ds : List D} {Q : Vars → BS → Fl → Prop} (hx : vars.lookup x = some (.mu ds)) (hk : isVar F.sc x = true) (hc : isComp e = false)
    (h : Ev C F vars bs e fun b r => ValK (fun d => Ev C F vars b i fun b2 r2 => IntK (fun k => 0 ≤ k ∧ k < ds.length ∧ ds.length < 2 ^ 40 ∧ Q ((x, .mu (ds.set k.toNat d)) :: vars) b2 .next) r2) r.norm) :
    Ex1 C F vars bs (.Assign [.Subscript (.Name x p) i p1] e pos) Q :=
  ⟨fun A env Ψ φ ρ s hA X => by
    refine wpAny_Assign_Subscript (wpAny_mono (one (K := fun b r => ValK (fun d => Ev C F vars b i fun b2 r2 => IntK (fun k => 0 ≤ k ∧ k < ds.length ∧ ds.length < 2 ^ 40 ∧ Q ((x, .mu (ds.set k.toNat d)) :: vars) b2 .next) r2) r) h hA X) (fun v s1 ⟨φ1, b1, r, le1, X1, h1, k1⟩ => ?_) fun _ _ x => x) (swaps_false hc)
    revert h1 k1
    generalize r.norm = r
    intro h1 k1
    cases r with
    | val d =>
      obtain ⟨a0, vs0, n0, g1, _⟩ := X1.F.mu x ds hx
      refine name_at X1 g1 ?_ hk
      refine wpAny_mono (k1.run A env Ψ φ1 ρ s1 hA X1) (fun u s2 ⟨φ2, b2, r2, le2, X2, h2, k2⟩ => ?_) fun _ _ x => x
      obtain ⟨a, vs, n, i1, i2, i3, _⟩ := X2.F.mu x ds hx
      rw [g1] at i1; cases i1
      have el := i3.length
      rw [Array.length_toList] at el
      obtain ⟨k, rfl, z0, z1, z2, hq⟩ := k2.get
      · obtain ⟨_, rfl⟩ := Rep.int_inv h2
        refine setItem_at i2 z0 (by omega) (by omega) fun h' hh hb => ?_
        exact ⟨φ2, ρ, _, b2, .next, le1.trans le2, X2.setOwn (tk := s2.toks) hx g1 i2 hb.extBut hh (by
          rw [Array.toList_setIfInBounds]
          exact i3.set (Rep.mono le2 h1)), trivial, hq⟩
    | _ => exact k1.elim⟩
/-- the two numbers of the shared list are read -/
theorem Ev_box {y : Str} {p p1 pos : Pos} {kk : Nat} {i : Int} {a b : Int} {Q : BS → R → Prop} (hv : vars.lookup y = some (.val .box)) (hk : isVar F.sc y = true) (hb : bs = some (.two a b)) (hi : i = 0 ∨ i = 1)
    (h : Q bs (.val (.int (if i = 0 then a else b)))) : Ev C F vars bs (.Subscript (.Name y p) (.Constant (.int i) kk p1) pos) Q :=
  ⟨fun A env Ψ φ ρ s hA X => by
    subst hb
    obtain ⟨v, g1, g2⟩ := X.F.val y _ hv
    obtain ⟨⟨u, u', n, hbox⟩, _⟩ := X.G.box _ rfl
    obtain rfl := Rep.box_inv g2
    have hl : s.heap.IsList C.β #[.int a u, .int b u'] := IsListOf hbox
    rw [eval_Subscript]
    refine wpAny_bind (name_at X g1 (wpAny_bind (wpAny_holding ?_)) hk)
    show wpAny _ _ (eval (.Constant (.int i) kk p1) env) _ _ _
    refine wpAny_Constant_int ?_
    have hl2 : ({ s with toks := s.toks + 1 } : Shared).heap.IsList C.β #[.int a u, .int b u'] := hl
    have hT := hl2.typeIs
    obtain ⟨id, hlk⟩ := look_of (r := .val (.list [])) rfl
    refine wpAny_bind (wpAny_standAt (wpAny_bind (inPy hT hlk ?_)))
    rw [subscripted_plain rfl]
    refine wpAny_bind (wpAny_operating ?_)
    rcases hi with rfl | rfl
    · exact wpAny_getItem_list hl2 (by decide) (by decide) (x := .int a u) rfl (wpAny_bind (wpAny_letTemporaryGo (wpAny_pure ⟨φ, _, .val (.int _), Store.Le.refl φ, X.tick, Rep.int _ _, h⟩)))
    · exact wpAny_getItem_list hl2 (by decide) (by decide) (x := .int b u') rfl (wpAny_bind (wpAny_letTemporaryGo (wpAny_pure ⟨φ, _, .val (.int _), Store.Le.refl φ, X.tick, Rep.int _ _, h⟩)))⟩
/-- a number of the shared list is changed -/
theorem Ex1_box {y : Str} {p p1 p2 pos : Pos} {kk : Nat} {i : Int} {e : Expr} {Q : Vars → BS → Fl → Prop} (hv : vars.lookup y = some (.val .box)) (hk : isVar F.sc y = true) (hi : i = 0 ∨ i = 1) (hc : isComp e = false)
    (h : Ev C F vars bs e fun b r => IntK (fun c => ∃ a1 a2, b = some (.two a1 a2) ∧ Q vars (some (if i = 0 then .two c a2 else .two a1 c)) .next) r) :
    Ex1 C F vars bs (.Assign [.Subscript (.Name y p) (.Constant (.int i) kk p1) p2] e pos) Q :=
  ⟨fun A env Ψ φ ρ s hA X => by
    refine wpAny_Assign_Subscript (wpAny_mono (h.run A env Ψ φ ρ s hA X) (fun v₀ s1 ⟨φ1, b1, r, le1, X1, h1, k1⟩ => ?_) fun _ _ x => x) (swaps_false hc)
    obtain ⟨c, rfl, a1, a2, rfl, hq⟩ := k1.get
    · skip
      obtain ⟨v, g1, g2⟩ := X1.F.val y _ hv
      obtain ⟨⟨u, u', n, hbox⟩, _⟩ := X1.G.box _ rfl
      obtain rfl := Rep.box_inv g2
      refine name_at X1 g1 ?_ hk
      refine wpAny_Constant_int ?_
      obtain ⟨m1, m2⟩ := X1.boxFree
      obtain ⟨tc, rfl⟩ : ∃ tc, v₀ = .int c tc := Rep.int_inv h1
      refine setItem_at (s := { s1 with toks := s1.toks + 1 }) hbox (by rcases hi with rfl | rfl <;> decide) (by rcases hi with rfl | rfl <;> decide) (by show i < ((2 : Nat) : Int); rcases hi with rfl | rfl <;> decide) fun h' hh hb => ?_
      refine ⟨φ1, ρ, vars, _, .next, le1, X1.setBox (tk := s1.toks + 1) ⟨_, hbox, .inr ⟨_, _, rfl⟩⟩ m1 m2 (fun b q => hb.2 b q) ?_, trivial, hq⟩
      rcases hi with rfl | rfl
      · exact ⟨tc, u', n, hh⟩
      · exact ⟨u, tc, n, hh⟩⟩
end
end Mine
end
section
set_option maxRecDepth 100000
set_option linter.unusedVariables false
namespace Mine
open PySem PySem.W PySem.Calls PyProof.Rows PySem.Spec
mutual
noncomputable def D.toP : D → PyData
  | .int i => .int i
  | .bool b => .bool b
  | .tuple ds => .tuple (toPs ds)
  | .list ds => .list (toPs ds)
  | _ => .none
noncomputable def toPs : List D → List PyData
  | [] => []
  | d :: ds => d.toP :: toPs ds
end
noncomputable def D.okN : Nat → D → Bool
  | _, .int _ => true
  | n + 1, .tuple ds => ds.all (D.okN n)
  | n + 1, .list ds => ds.all (D.okN n)
  | _, _ => false
inductive OkV : D → Nat → Prop
  | int (n : Nat) (i : Int) : OkV (.int i) n
  | tuple {n m : Nat} {ds : List D} (e : n = m + 1) (h : ∀ d ∈ ds, d.okN m = true) : OkV (.tuple ds) n
  | list {n m : Nat} {ds : List D} (e : n = m + 1) (h : ∀ d ∈ ds, d.okN m = true) : OkV (.list ds) n
theorem okN_v {d : D} {n : Nat} (h : d.okN n = true) : OkV d n := by
  cases d with
  | int i => exact .int _ _
  | tuple ds =>
    cases n with
    | zero => cases h
    | succ n => exact .tuple rfl (List.all_eq_true.mp h)
  | list ds =>
    cases n with
    | zero => cases h
    | succ n => exact .list rfl (List.all_eq_true.mp h)
  | _ => cases n <;> cases h
theorem reads_reps' {φ : Store} {β : Addr} {h : Heap} {n : Nat} (ih : ∀ {v d}, Rep φ β v d → d.okN n = true → ∃ as, Reads h v d.toP as) {ds : List D} : ∀ {vs : List Value}, Reps φ β vs ds → (∀ d ∈ ds, d.okN n = true) → ∃ as, ReadsAll h vs (toPs ds) as := by
  induction ds with
  | nil => intro vs r _; rw [Reps.nil_inv r]; exact ⟨_, .nil⟩
  | cons d ds ihd =>
    intro vs r k
    obtain ⟨v, ws, e, r1, r2⟩ := Reps.cons_inv r
    obtain ⟨as, g⟩ := ih r1 (k _ List.mem_cons_self)
    obtain ⟨bs, g'⟩ := ihd r2 fun d hd => k d (List.mem_cons_of_mem _ hd)
    rw [e]; exact ⟨_, .cons g g'⟩
theorem reads_rep {φ : Store} {β : Addr} {h : Heap} (hk : ∀ b o, φ b = some o → h.get? b = some o) (n : Nat) : ∀ {v : Value} {d : D}, Rep φ β v d → d.okN n = true → ∃ as, Reads h v d.toP as := by
  induction n with
  | zero =>
    intro v d r k
    cases okN_v k with
    | int n i => obtain ⟨t, e⟩ := Rep.int_inv r; rw [e]; exact ⟨_, .int i t⟩
    | tuple e h => cases e
    | list e h => cases e
  | succ n ih =>
    intro v d r k
    cases okN_v k with
    | int n i => obtain ⟨t, e⟩ := Rep.int_inv r; rw [e]; exact ⟨_, .int i t⟩
    | tuple e g =>
      obtain ⟨a, vs, m, q, q1, q2⟩ := Rep.tuple_inv r
      obtain ⟨as, w⟩ := reads_reps' ih q2 (Nat.succ.inj e ▸ g)
      rw [q]; exact ⟨_, .tuple (hk _ _ q1) rfl rfl (by simpa using w)⟩
    | list e g =>
      obtain ⟨a, vs, m, q, q1, q2⟩ := Rep.list_inv r
      obtain ⟨as, w⟩ := reads_reps' ih q2 (Nat.succ.inj e ▸ g)
      rw [q]; exact ⟨_, .list (hk _ _ q1) rfl rfl (by simpa using w)⟩
theorem reads_reps {φ : Store} {β : Addr} {h : Heap} (hk : ∀ b o, φ b = some o → h.get? b = some o) {vs : List Value} {ds : List D} (n : Nat) (r : Reps φ β vs ds) (k : ∀ d ∈ ds, d.okN n = true) : ∃ as, ReadsAll h vs (toPs ds) as :=
  reads_reps' (fun r k => reads_rep hk n r k) r k
theorem okN_lay : ∀ (n : Nat) (d : D), d.okN n = true → d.toP.canLay0 = true ∧ d.toP.depth ≤ n := by
  have all : ∀ (n : Nat), (∀ d : D, d.okN n = true → d.toP.canLay0 = true ∧ d.toP.depth ≤ n) → ∀ ds : List D, (∀ d ∈ ds, d.okN n = true) → PyData.canLayAll0 (toPs ds) = true ∧ PyData.depthAll (toPs ds) ≤ n := by
    intro n ih ds
    induction ds with
    | nil => intro _; exact ⟨rfl, Nat.zero_le _⟩
    | cons d ds ihs =>
      intro h
      have h1 := ih d (h d List.mem_cons_self)
      have h2 := ihs fun e he => h e (List.mem_cons_of_mem _ he)
      refine ⟨?_, Nat.max_le.mpr ⟨h1.2, h2.2⟩⟩
      rw [toPs, PyData.canLayAll0, h1.1, h2.1]; rfl
  intro n
  induction n with
  | zero =>
    intro d h
    cases okN_v h with
    | int n i => exact ⟨rfl, Nat.zero_le _⟩
    | tuple e g => cases e
    | list e g => cases e
  | succ n ih =>
    intro d h
    cases okN_v h with
    | int n i => exact ⟨rfl, Nat.zero_le _⟩
    | tuple e g =>
      have q := all n ih _ (Nat.succ.inj e ▸ g)
      exact ⟨q.1, by simp only [D.toP, PyData.depth]; lia⟩
    | list e g =>
      have q := all n ih _ (Nat.succ.inj e ▸ g)
      exact ⟨q.1, by simp only [D.toP, PyData.depth]; lia⟩
theorem okN_eqv : ∀ (n : Nat) (d e : D) (k : Nat), d.okN n = true → e.okN k = true → (PyData.eqv d.toP e.toP = true ↔ d = e) := by
  have all : ∀ (n : Nat), (∀ (d e : D) k, d.okN n = true → e.okN k = true → (PyData.eqv d.toP e.toP = true ↔ d = e)) → ∀ (k : Nat) (ds es : List D), (∀ d ∈ ds, d.okN n = true) → (∀ d ∈ es, d.okN k = true) →
      (PyData.eqvAll (toPs ds) (toPs es) = true ↔ ds = es) := by
    intro n ih k ds
    induction ds with
    | nil => intro es _ _; cases es with
      | nil => exact ⟨fun _ => rfl, fun _ => rfl⟩
      | cons e es => exact ⟨fun h => (nomatch h), fun h => (nomatch h)⟩
    | cons d ds ihs =>
      intro es h1 h2
      cases es with
      | nil => exact ⟨fun h => (nomatch h), fun h => (nomatch h)⟩
      | cons e es =>
        have q1 := ih d e k (h1 d List.mem_cons_self) (h2 e List.mem_cons_self)
        have q2 := ihs es (fun x hx => h1 x (List.mem_cons_of_mem _ hx)) (fun x hx => h2 x (List.mem_cons_of_mem _ hx))
        rw [toPs, toPs, PyData.eqvAll, Bool.and_eq_true, q1, q2, List.cons.injEq]
  have int : ∀ (i : Int) (e : D) (k : Nat), e.okN k = true → (PyData.eqv (D.int i).toP e.toP = true ↔ D.int i = e) := fun i e k he => by
    cases okN_v he with
    | int n j => simp [D.toP, PyData.eqv]
    | tuple e g => exact ⟨fun h => (by simp [D.toP, PyData.eqv] at h), fun h => nomatch h⟩
    | list e g => exact ⟨fun h => (by simp [D.toP, PyData.eqv] at h), fun h => nomatch h⟩
  intro n
  induction n with
  | zero =>
    intro d e k hd he
    cases okN_v hd with
    | int n i => exact int i e k he
    | tuple e g => cases e
    | list e g => cases e
  | succ n ih =>
    intro d e k hd he
    cases okN_v hd with
    | int n i => exact int i e k he
    | tuple q g =>
      cases okN_v he with
      | int n j => exact ⟨fun h => (by simp [D.toP, PyData.eqv] at h), fun h => nomatch h⟩
      | tuple q' g' => rw [D.toP, D.toP, PyData.eqv, all n ih _ _ _ (Nat.succ.inj q ▸ g) g', D.tuple.injEq]
      | list q' g' => exact ⟨fun h => (by simp [D.toP, PyData.eqv] at h), fun h => nomatch h⟩
    | list q g =>
      cases okN_v he with
      | int n j => exact ⟨fun h => (by simp [D.toP, PyData.eqv] at h), fun h => nomatch h⟩
      | tuple q' g' => exact ⟨fun h => (by simp [D.toP, PyData.eqv] at h), fun h => nomatch h⟩
      | list q' g' => rw [D.toP, D.toP, PyData.eqv, all n ih _ _ _ (Nat.succ.inj q ▸ g) g', D.list.injEq]
noncomputable def R.toD : R → Option D
  | .val d => some d
  | .bor _ ds => some (.list ds)
  | .own ds => some (.list ds)
section
variable {C : Cx} {F : Fm} {vars : Vars} {bs : BS} {k : R → Prop}
theorem reads_rv {env : Env} {Ψ φ : Store} {ρ : Str → Option Value} {s : Shared} {v : Value} {r : R} {d : D} {n : Nat} (X : St C F env Ψ φ ρ vars bs s) (h : RV C env Ψ φ ρ vars s v r) (hd : r.toD = some d) (ok : d.okN n = true) : ∃ as, Reads s.heap v d.toP as := by
  have lst : ∀ ds, r.items = some ds → d = .list ds → ∃ as, Reads s.heap v d.toP as := fun ds hi e => by
    subst e
    obtain ⟨a, vs, m, rfl, h1, h2⟩ := RV.view X h hi
    cases n with
    | zero => simp [D.okN] at ok
    | succ n =>
      obtain ⟨as, g⟩ := reads_reps X.G.fro n h2 (by simpa [D.okN] using ok)
      exact ⟨_, by rw [D.toP]; exact .list h1 rfl rfl g⟩
  cases r with
  | val d' => cases hd; exact reads_rep X.G.fro n h ok
  | bor x ds => cases hd; exact lst ds rfl rfl
  | own ds => cases hd; exact lst ds rfl rfl
theorem shaped_of {d : D} (h : d.okN 60 = true) : SeqAt.shaped d.toP = true := by
  obtain ⟨h1, h2⟩ := okN_lay 60 d h
  unfold SeqAt.shaped
  rw [h1]
  simp; omega
theorem eq_d {r1 r2 : R} {d e : D} (h1 : r1.toD = some d) (h2 : r2.toD = some e) (o1 : d.okN 60 = true) (o2 : e.okN 60 = true) (h : ∀ t, (t = true ↔ d = e) → k (.val (.bool t))) : Op2 C (compareOp .Eq) r1 r2 k :=
  ⟨fun n F A env Ψ φ ρ vars bs s v1 v2 hA X g1 g2 => by
    obtain ⟨as, ra⟩ := reads_rv X g1 h1 o1
    obtain ⟨bs', rb⟩ := reads_rv X g2 h2 o2
    exact eq_dataH ra rb (shaped_of o1) (shaped_of o2) (by have := hA.units; omega) ⟨φ, .val (.bool _), Store.Le.refl φ, X, Rep.bool _, h _ (okN_eqv 60 d e 60 o1 o2)⟩⟩
theorem ne_d {r1 r2 : R} {d e : D} (h1 : r1.toD = some d) (h2 : r2.toD = some e) (o1 : d.okN 60 = true) (o2 : e.okN 60 = true) (h : ∀ t, (t = true ↔ d ≠ e) → k (.val (.bool t))) : Op2 C (compareOp .NotEq) r1 r2 k :=
  ⟨fun n F A env Ψ φ ρ vars bs s v1 v2 hA X g1 g2 => by
    obtain ⟨as, ra⟩ := reads_rv X g1 h1 o1
    obtain ⟨bs', rb⟩ := reads_rv X g2 h2 o2
    exact ne_dataH ra rb (shaped_of o1) (shaped_of o2) (by have := hA.units; omega) ⟨φ, .val (.bool _), Store.Le.refl φ, X, Rep.bool _, h _ (by
      have := okN_eqv 60 d e 60 o1 o2
      rw [Bool.not_eq_true', ← Bool.not_eq_true, this])⟩⟩
theorem mem_toPs {d : D} {n m : Nat} (hd : d.okN n = true) : ∀ {ds : List D}, (∀ e ∈ ds, e.okN m = true) → ((toPs ds).any (fun y => PyData.eqv y d.toP) = true ↔ d ∈ ds)
  | [], _ => by simp [toPs]
  | e :: ds, h => by
    have ih := mem_toPs hd (ds := ds) fun x hx => h x (List.mem_cons_of_mem _ hx)
    have := okN_eqv m e d n (h e List.mem_cons_self) hd
    rw [toPs, List.any_cons, Bool.or_eq_true, this, ih, List.mem_cons, eq_comm]
theorem in_d {r1 r2 : R} {d : D} {ds : List D} (h1 : r1.toD = some d) (h2 : r2.toD = some (.list ds)) (o1 : d.okN 20 = true) (o2 : ds.all (D.okN 20) = true) (h : ∀ t, (t = true ↔ d ∈ ds) → k (.val (.bool t))) : Op2 C (compareOp .In) r1 r2 k :=
  ⟨fun n F A env Ψ φ ρ vars bs s v1 v2 hA X g1 g2 => by
    obtain ⟨as, ra⟩ := reads_rv X g1 h1 o1
    have o2' : (D.list ds).okN 21 = true := by simpa [D.okN] using o2
    obtain ⟨bs', rb⟩ := reads_rv X g2 h2 o2'
    obtain ⟨l1, l2⟩ := okN_lay _ _ o1
    obtain ⟨l3, l4⟩ := okN_lay _ _ o2'
    rw [D.toP] at rb
    have l3' : PyData.canLayAll0 (toPs ds) = true := by simpa [D.toP, PyData.canLay0] using l3
    refine SeqAt.in_list_reads rb ra l3' l1 (by have := hA.units; have := Nat.min_le_right (PyData.depthAll (toPs ds)) d.toP.depth; omega) ⟨φ, .val (.bool _), Store.Le.refl φ, X, Rep.bool _, h _ (mem_toPs o1 (by simpa using o2))⟩⟩
end
end Mine
end
section
set_option maxRecDepth 100000
set_option linter.unusedVariables false
namespace Mine
open PySem PySem.W PySem.Calls PyProof.Rows PySem.Spec MeetsSeq
theorem reps1 {φ : Store} {β : Addr} {vs : List Value} {d : D} (h : Reps φ β vs [d]) : ∃ v, vs = [v] ∧ Rep φ β v d := by
  cases h with
  | cons h1 r => cases r; exact ⟨_, rfl, h1⟩
theorem reps2 {φ : Store} {β : Addr} {vs : List Value} {d e : D} (h : Reps φ β vs [d, e]) : ∃ v u, vs = [v, u] ∧ Rep φ β v d ∧ Rep φ β u e := by
  cases h with
  | cons h1 r => obtain ⟨u, rfl, h2⟩ := reps1 r; exact ⟨_, _, rfl, h1, h2⟩
theorem reps3 {φ : Store} {β : Addr} {vs : List Value} {d e f : D} (h : Reps φ β vs [d, e, f]) : ∃ v u w, vs = [v, u, w] ∧ Rep φ β v d ∧ Rep φ β u e ∧ Rep φ β w f := by
  cases h with
  | cons h1 r => obtain ⟨u, w, rfl, h2, h3⟩ := reps2 r; exact ⟨_, _, _, rfl, h1, h2, h3⟩
section
variable {C : Cx} {F : Fm} {vars : Vars} {bs : BS} {k : R → Prop}
/-- several arguments, a call -/
structure OpD (C : Cx) (t : List Value → Sem Value) (ds : List D) (k : R → Prop) : Prop where
  run : ∀ n F A env Ψ φ ρ vars bs s vs, AOk n A → St C F env Ψ φ ρ vars bs s → Reps φ C.β vs ds →
    wpAny C.M A (t vs) (OpR C F env Ψ φ ρ vars bs k) (fun _ _ => False) s
inductive BltFn : Value → Prop
  | builtin (id : String) : BltFn (.builtin id)
  | type (T : String) : BltFn (.type T)
theorem callWith_blt {A : Around} {pos : Pos} {f : Value} {args : List (Bool × Sem Value)} {s : Shared} {P : Value → Shared → Prop} {E : Value → Shared → Prop} (hf : BltFn f) (hp : args.any (·.1) = false)
    (h : wpAny C.M A (evalArgs f true args []) (fun a s₁ => wpAny C.M A (call f a.pos a.kw) P E s₁) E s) : wpAny C.M A (callWith pos f [] args []) P E s := by
  cases hf with
  | builtin id => exact Calls.callWith_builtin hp (wpAny_mono h (fun _ _ x => x) fun _ _ x => x)
  | type T => exact PySem.callWith_type hp (wpAny_mono h (fun _ _ x => x) fun _ _ x => x)
theorem Ev_blt {x : Str} {f : Value} {e : Expr} {es : List Expr} {p pos : Pos} {Q : BS → R → Prop} (ok : C.Ok) (hg : C.mg x = none) (hv : bootBuiltins x = some f) (hn : x ≠ "__name__") (hf : BltFn f) (hk : F.sc.names.lookup x = some .globalImplicit) (hd : (x == ("__debug__" : Str)) = false)
    (hs : (e :: es).all notStar = true) (h : EvD C F vars bs (e :: es) fun b ds => OpD C (fun vs => call f vs []) ds (Q b)) : Ev C F vars bs (.Call (.Name x p) (e :: es) [] pos) Q :=
  ⟨fun A env Ψ φ ρ s hA X => by
    show wpAny C.M A (do callWith pos (← eval (.Name x p) env) [] (backTo pos (starEach (e :: es) env)) []) _ _ s
    refine wpAny_bind (builtin_at ok X hg hv hn hk hd ?_)
    refine callWith_blt hf (plain_args hs).1 (evalArgs_at hA X h (Bool.and_eq_true_iff.mp (List.all_cons ▸ hs)).1 fun vs s' φ' bs' ds le X' hr hq => ?_)
    exact wpAny_mono (hq.run _ _ _ _ _ _ _ _ _ _ _ hA X' hr) (fun v s2 ⟨φ2, r, le2, X2, h2, k2⟩ => ⟨φ2, bs', r, le.trans le2, X2, h2, k2⟩) fun _ _ x => x⟩
theorem Ev_blt1 {x : Str} {f : Value} {e : Expr} {p pos : Pos} {Q : BS → R → Prop} (ok : C.Ok) (hg : C.mg x = none) (hv : bootBuiltins x = some f) (hn : x ≠ "__name__") (hf : BltFn f) (hk : F.sc.names.lookup x = some .globalImplicit) (hd : (x == ("__debug__" : Str)) = false)
    (hs : notStar e = true) (h : Ev C F vars bs e fun b r => Op1 C (fun v => call f [v] []) r.norm (Q b)) : Ev C F vars bs (.Call (.Name x p) [e] [] pos) Q :=
  ⟨fun A env Ψ φ ρ s hA X => by
    show wpAny C.M A (do callWith pos (← eval (.Name x p) env) [] (backTo pos (starEach [e] env)) []) _ _ s
    refine wpAny_bind (builtin_at ok X hg hv hn hk hd ?_)
    refine callWith_blt hf (plain_args (by rw [List.all_cons, hs]; rfl)).1 ?_
    rw [starEach_plain hs]
    refine Calls.evalArgs_plain (Calls.spliced_cons (wpAny_mono (one (K := fun b r => Op1 C (fun v => call f [v] []) r (Q b)) h hA X) (fun v s1 ⟨φ1, b1, r, le1, X1, h1, k1⟩ => Calls.spliced_nil ?_) fun _ _ x => x))
    exact wpAny_mono (k1.run _ _ _ _ _ _ _ _ _ _ _ hA X1 h1) (fun v s2 ⟨φ2, r, le2, X2, h2, k2⟩ => ⟨φ2, b1, r, le1.trans le2, X2, h2, k2⟩) fun _ _ x => x⟩
/-- a new object that is frozen at once -/
theorem St.newFro {env : Env} {Ψ φ : Store} {ρ : Str → Option Value} {s : Shared} (X : St C F env Ψ φ ρ vars bs s) {a : Addr} {o : Obj} {h : Heap} {tk : Nat}
    (hk : ∀ b o, s.heap.get? b = some o → h.get? b = some o) (hn : s.heap.get? a = none) (ha : h.get? a = some o) : φ.Le (φ.put a o) ∧ St C F env Ψ (φ.put a o) ρ vars bs { s with heap := h, toks := tk } := by
  have Y : St C F env Ψ φ ρ vars bs { s with heap := h, toks := tk } := X.grow hk
  have hφ := (X.G.new hn).1
  refine ⟨Store.le_put hφ, Y.freeze ha hφ (X.G.new hn).2 (X.bne hn) ?_ ?_ ?_⟩
  · rintro rfl
    obtain ⟨m, ⟨o, es, ep, g, _⟩, _⟩ := X.F.ns
    rw [hn] at g; cases g
  · intro x hx e
    obtain ⟨c, v, g1, ⟨o, g2, _⟩, _⟩ := X.F.own x hx
    rw [g1] at e; cases e
    rw [hn] at g2; cases g2
  · intro x es e q
    obtain ⟨b, vs', n', h1, h2, _⟩ := X.F.mu x es e
    rw [h1] at q; cases q
    rw [hn] at h2; cases h2
theorem range_1 {n : Int} (h : k (.val (.range 0 n 1))) : OpD C (fun vs => call (.type "range") vs []) [.int n] k :=
  ⟨fun m F A env Ψ φ ρ vars bs s vs hA X hr => by
    obtain ⟨_, rfl, h1⟩ := reps1 hr
    obtain ⟨t, rfl⟩ := Rep.int_inv h1
    refine call_range_1 ?_
    obtain ⟨le, X2⟩ := X.newFro (tk := s.toks + 1 + 1) (fun b o e => Heap.get?_push_of_some _ e) get?_size (Heap.get?_push_size (o := { cls := .type "range", data := .fields #[.int 0 s.toks, .int n t, .int 1 (s.toks + 1)] }) _ rfl)
    exact ⟨_, .val (.range 0 n 1), le, X2, Rep.range (Store.put_self ..), h⟩⟩
theorem range_2 {a b : Int} (h : k (.val (.range a b 1))) : OpD C (fun vs => call (.type "range") vs []) [.int a, .int b] k :=
  ⟨fun m F A env Ψ φ ρ vars bs s vs hA X hr => by
    obtain ⟨_, _, rfl, h1, h2⟩ := reps2 hr
    obtain ⟨t, rfl⟩ := Rep.int_inv h1; obtain ⟨u, rfl⟩ := Rep.int_inv h2
    refine call_range_2 ?_
    obtain ⟨le, X2⟩ := X.newFro (tk := s.toks + 1) (fun b o e => Heap.get?_push_of_some _ e) get?_size (Heap.get?_push_size (o := { cls := .type "range", data := .fields #[.int a t, .int b u, .int 1 s.toks] }) _ rfl)
    exact ⟨_, .val (.range a b 1), le, X2, Rep.range (Store.put_self ..), h⟩⟩
theorem range_3 {a b c : Int} (hc : c ≠ 0) (hs : c.natAbs < 2 ^ 30) (h : k (.val (.range a b c))) : OpD C (fun vs => call (.type "range") vs []) [.int a, .int b, .int c] k :=
  ⟨fun m F A env Ψ φ ρ vars bs s vs hA X hr => by
    obtain ⟨_, _, _, rfl, h1, h2, h3⟩ := reps3 hr
    obtain ⟨t, rfl⟩ := Rep.int_inv h1; obtain ⟨u, rfl⟩ := Rep.int_inv h2; obtain ⟨v, rfl⟩ := Rep.int_inv h3
    refine call_range_3 hc ?_ (Or.inl (PyProof.noPylong_small (by omega)))
    obtain ⟨le, X2⟩ := X.newFro (tk := s.toks) (fun b o e => Heap.get?_push_of_some _ e) get?_size (Heap.get?_push_size (o := { cls := .type "range", data := .fields #[.int a t, .int b u, .int c v] }) _ rfl)
    exact ⟨_, .val (.range a b c), le, X2, Rep.range (Store.put_self ..), h⟩⟩
theorem min_ii {a b : Int} (h : k (.val (.int (min a b)))) : OpD C (fun vs => call (.builtin "min") vs []) [.int a, .int b] k :=
  ⟨fun m F A env Ψ φ ρ vars bs s vs hA X hr => by
    obtain ⟨_, _, rfl, h1, h2⟩ := reps2 hr
    obtain ⟨t, rfl⟩ := Rep.int_inv h1; obtain ⟨u, rfl⟩ := Rep.int_inv h2
    refine min_two_ints hA.1 fun h' tk hk => ?_
    by_cases q : b < a
    · rw [if_pos q]; exact ⟨φ, .val (.int (min a b)), Store.Le.refl φ, X.grow hk, by rw [Int.min_eq_right (by lia)]; exact Rep.int _ _, h⟩
    · rw [if_neg q]; exact ⟨φ, .val (.int (min a b)), Store.Le.refl φ, X.grow hk, by rw [Int.min_eq_left (by lia)]; exact Rep.int _ _, h⟩⟩
theorem add_l {r1 r2 : R} {d1 d2 : List D} (h1 : r1.items = some d1) (h2 : r2.items = some d2) (hz : d1.length + d2.length ≤ 16777216) (h : k (.own (d1 ++ d2))) : Op2 C (binaryOp .Add) r1 r2 k :=
  ⟨fun m F A env Ψ φ ρ vars bs s v1 v2 hA X g1 g2 => by
    obtain ⟨a, vs, n, rfl, i1, i2⟩ := RV.view X g1 h1
    obtain ⟨b, ws, n2, rfl, j1, j2⟩ := RV.view X g2 h2
    have e1 := i2.length
    have e2 := j2.length
    rw [Array.length_toList] at e1 e2
    refine P.add_list (hsz := by rw [sizeLine_eq]; lia) i1 j1 ?_
    obtain ⟨X2, hv⟩ := X.newOwn (tk := s.toks) (a := s.heap.objs.size) (ds := d1 ++ d2) (fun b o e => Heap.get?_push_of_some _ e) get?_size (Heap.get?_push_size _ rfl) (by rw [Array.toList_append]; exact i2.append j2)
    exact ⟨φ, _, Store.Le.refl φ, X2, hv, h⟩⟩
noncomputable def rep {α : Type} (l : List α) (n : Nat) : List α := (List.replicate n l).flatten
theorem rep_foldl {α : Type} (l : Array α) : ∀ (n : Nat) (acc : Array α), (List.foldl (fun x1 x2 => x1 ++ x2) acc (List.replicate n l)).toList = acc.toList ++ rep l.toList n
  | 0, acc => by simp [rep]
  | n + 1, acc => by
    rw [List.replicate_succ, List.foldl_cons, rep_foldl l n]
    simp [rep, List.replicate_succ]
theorem Reps.rep {φ : Store} {β : Addr} {vs : List Value} {ds : List D} (h : Reps φ β vs ds) : ∀ n, Reps φ β (rep vs n) (rep ds n)
  | 0 => by simpa [Mine.rep] using Reps.nil
  | n + 1 => by
    have := Reps.append h (Reps.rep h n)
    simpa [Mine.rep, List.replicate_succ] using this
theorem mul_l {r1 : R} {d1 : List D} {x : Int} (h1 : r1.items = some d1) (hx : -(2 ^ 20) ≤ x ∧ x ≤ 2 ^ 20) (hz : d1.length * x.toNat ≤ 2 ^ 20) (h : k (.own (rep d1 x.toNat))) : Op2 C (binaryOp .Mult) r1 (.val (.int x)) k :=
  ⟨fun m F A env Ψ φ ρ vars bs s v1 v2 hA X g1 g2 => by
    obtain ⟨a, vs, n, rfl, i1, i2⟩ := RV.view X g1 h1
    have e1 := i2.length
    rw [Array.length_toList] at e1
    obtain ⟨u, rfl⟩ := Rep.int_inv g2
    refine wpAny_binaryOp_repeat_ref (T := "list") (U := "int") (by decide) ⟨_, i1, rfl⟩ (fun s' => typeIs_int s' x u) noFill_list_mul PySem.F.fills_int_mul PySem.F.slot_int_rmul repeat_list PySem.F.slot_int_index.lookup
      (call_meets PySem.F.slot_int_rmul (typeIs_int s x u) PySem.F.entry_int_rmul (PySem.F.args_int_rmul_2 _ _) (int___rmul___int_list x u a vs n)
        ⟨i1, rfl, ⟨_, i1, rfl⟩, call_meets PySem.F.slot_list_mul ⟨_, i1, rfl⟩ PySem.F.entry_list_mul (PySem.F.args_list_mul_2 _ _)
          (AutoListH.list___mul___list_int_3 a vs n x u (by simp [Builtin.List.listFitsIndex]; lia) (by rw [e1]; lia) (by simp [Builtin.List.listTooLong, sizeLine]; rw [e1]; lia))
          ⟨i1, ?_⟩⟩)
    have key : Reps φ C.β (List.foldl (fun x1 x2 => x1 ++ x2) #[] (List.replicate (if vs.isEmpty = true then 0 else x.toNat) vs)).toList (rep d1 x.toNat) := by
      rw [rep_foldl]
      by_cases q : vs.isEmpty = true
      · rw [if_pos q]
        have z : vs.toList = [] := by simpa using q
        rw [z] at i2
        cases i2
        have : ∀ n, rep ([] : List D) n = [] := fun n => by simp [rep]
        rw [this]; simpa [rep] using Reps.nil
      · rw [if_neg q]; simpa using i2.rep x.toNat
    obtain ⟨X2, hv⟩ := X.newOwn (tk := s.toks) (a := s.heap.objs.size) (ds := rep d1 x.toNat) (fun b o e => Heap.get?_push_of_some _ e) get?_size (Heap.get?_push_size _ rfl) key
    exact ⟨φ, _, Store.Le.refl φ, X2, hv, h⟩⟩
end
end Mine
end
section
set_option maxRecDepth 100000
set_option linter.unusedVariables false
namespace Mine
open PySem PySem.W PySem.Calls PyProof.Rows PySem.Spec MeetsSeq
theorem ints_are {φ : Store} {β : Addr} {vs : List Value} {ns : List Int} (r : Reps φ β vs (ns.map D.int)) : IntsAre vs ns := by
  induction ns generalizing vs with
  | nil => rw [Reps.nil_inv r]; exact .nil
  | cons n ns ih =>
    obtain ⟨v, ws, e, q, r⟩ := Reps.cons_inv r
    obtain ⟨t, g⟩ := Rep.int_inv q
    rw [e, g]; exact .cons _ _ (ih r)
theorem ints_rep {φ : Store} {β : Addr} {vs : List Value} {ns : List Int} (h : IntsAre vs ns) : Reps φ β vs (ns.map D.int) := by
  induction h with
  | nil => exact .nil
  | cons n t _ ih => exact .cons (.int n t) ih
theorem bInts_byteArr {ns : List Int} (h : ∀ n ∈ ns, 0 ≤ n ∧ n < 256) : KBw.bInts (byteArr ns) = ns := by
  unfold KBw.bInts byteArr
  rw [List.map_map]
  conv => rhs; rw [← List.map_id ns]
  apply List.map_congr_left
  intro n hn
  obtain ⟨h1, h2⟩ := h n hn
  show ((n.toNat.toUInt8).toNat : Int) = n
  rw [show (n.toNat.toUInt8).toNat = n.toNat % 256 from by simp]
  omega
section
variable {C : Cx} {F : Fm} {vars : Vars} {bs : BS} {k : R → Prop}
theorem sum_l {r : R} {ns : List Int} (hi : r.items = some (ns.map D.int)) (h : k (.val (.int ns.sum))) : Op1 C (fun v => call (.builtin "sum") [v] []) r k :=
  ⟨fun m F A env Ψ φ ρ vars bs s v hA X g => by
    obtain ⟨a, vs, n, rfl, i1, i2⟩ := RV.view X g hi
    have hI := ints_are i2
    obtain ⟨xs, hx⟩ := hI.allInts.items
    have hl' : s.heap.IsList a (intItems xs) := by
      have : vs = intItems xs := by rw [← hx]
      rw [← this]; exact IsListOf i1
    refine sum_intListG hA.1 hl' fun h' tk t' hk => ?_
    have e1 : ns = xs.toList.map (·.1) := by
      rw [← nums_intItems, ← hx]
      exact (show numsOf vs.toList.toArray.toList = ns from hI.numsOf).symm
    have e2 : preSum (numAt xs) xs.size = ns.sum := by
      rw [preSum_eq, List.take_of_length_le (by simp), e1]
    rw [e2]
    exact ⟨φ, .val (.int _), Store.Le.refl φ, X.grow hk, Rep.int _ _, h⟩⟩
theorem bytes_l {r : R} {ns : List Int} (hi : r.items = some (ns.map D.int)) (hb : ∀ n ∈ ns, 0 ≤ n ∧ n < 256) (hz : ns.length ≤ 1000000) (h : k (.val (.bytes ns))) : Op1 C (fun v => call (.type "bytes") [v] []) r k :=
  ⟨fun m F A env Ψ φ ρ vars bs s v hA X g => by
    obtain ⟨a, vs, n, rfl, i1, i2⟩ := RV.view X g hi
    have hI := ints_are i2
    have el := i2.length
    rw [List.length_map] at el
    refine call_bytes_ints (vs := vs.toList) (by simpa using IsListOf i1) hI hb (by rw [sizeLine_eq]; omega) hA.1 fun h' t tk hk => ?_
    exact ⟨φ, .val (.bytes ns), Store.Le.refl φ, X.grow hk, Rep.bytes _ (bInts_byteArr hb), h⟩⟩
end
end Mine
end
section
set_option maxRecDepth 100000
set_option linter.unusedVariables false
namespace Mine
open PySem PySem.W PySem.Calls PyProof.Rows PySem.Spec MeetsSeq
theorem bb_bytes : typeLookup (.type "bytes") "__bytes__" = pure (some (.builtin "bytes.__bytes__")) := by rw [typeLookup_type, builtinLookup_eq_fast]; kernel_rfl
section
variable {prog : Program} {w : World} {A : Around} {E : Value → Shared → Prop} {s : Shared}
theorem bb_new {b : Array UInt8} {t : Tok} {Q : Value → Shared → Prop} (h : Q (.bytes b t) s) :
    codeAny (model prog w) A (.call (.builtin "bytes.__new__") ⟨[.type "bytes", .bytes b t], []⟩) (wants Q E) s := by
  refine codeAny_of_tree ?_
  show wpAny _ A.in1 (do checkBuiltinCall "bytes.__new__" ⟨[.type "bytes", .bytes b t], []⟩; again (.builtin "bytes.__new__" ⟨[.type "bytes", .bytes b t], []⟩)) _ _ s
  refine wpAny_bind (wpAny_of_eq (PySem.F.bm_newCall _) (wpAny_pure ⟨plainId_quiet PySem.F.bm_plain _, codeAny_builtin PySem.F.bm_entry ?_⟩))
  rw [Around.under_plainId PySem.F.bm_plain _]
  have hT : s.TypeIs (.bytes b t) "bytes" := PySem.W.typeIs_bytes _ _ _
  unfold Builtin.«bytes.__new__»
  refine wpAny_bind (wpAny_of_eq (a := true) rfl ?_)
  refine bm_if_false rfl ?_
  refine wpAny_bind (wpAny_of_eq PySem.F.bm_sub ?_)
  refine bm_if_false rfl ?_
  refine wpAny_bind (wpAny_of_eq (PySem.F.bm_bind _) ?_)
  refine wpAny_bind (wpAny_of_eq (a := ()) rfl ?_)
  refine wpAny_bind (wpAny_of_eq (a := ()) rfl ?_)
  refine bm_if_false rfl ?_
  refine wpAny_bind (wpAny_specialOf hT bb_bytes ?_)
  refine wpAny_bind (wpAny_rule ?_)
  refine wpAny_bind (wpAny_typeOf hT ?_)
  refine bm_if_true rfl ?_
  exact wpAny_pure h
theorem call_bytes_bytes {b : Array UInt8} {t : Tok} {Q : Value → Shared → Prop} (h : Q (.bytes b t) s) : wpAny (model prog w) A (call (.type "bytes") [.bytes b t]) Q E s := by
  refine callType_codes (Q₁ := fun obj s₁ => s₁.TypeIs obj "bytes" ∧ Q obj s₁) PySem.F.bm_called (PySem.F.bm_typeCall _) PySem.F.entry_object_init
    (bb_new ⟨PySem.W.typeIs_bytes _ _ _, h⟩) fun obj s₁ h₁ => ?_
  exact ⟨h₁.1, PySem.F.args_object_init_2 obj _, object_init_meets PySem.F.bm_called.init.lookup PySem.F.bm_called.made (by decide) prog w A.in1 _ s₁ ⟨h₁.1, rfl, h₁.2⟩⟩
end
section
variable {C : Cx} {F : Fm} {vars : Vars} {bs : BS} {k : R → Prop}
theorem bytes_b {ns : List Int} (h : k (.val (.bytes ns))) : Op1 C (fun v => call (.type "bytes") [v] []) (.val (.bytes ns)) k :=
  ⟨fun m F A env Ψ φ ρ vars bs s v hA X g => by
    obtain ⟨_, t, rfl, e⟩ := Rep.bytes_inv g
    exact call_bytes_bytes ⟨φ, .val (.bytes ns), Store.Le.refl φ, X, Rep.bytes t e, h⟩⟩
theorem item_t {ds : List D} {d : D} {i : Int} (h0 : 0 ≤ i) (h1 : i < 2 ^ 40) (hd : ds[i.toNat]? = some d) (h : k (.val d)) : Op2 C getItem (.val (.tuple ds)) (.val (.int i)) k :=
  ⟨fun m F A env Ψ φ ρ vars bs s v1 v2 hA X g1 g2 => by
    obtain ⟨_, rfl⟩ := Rep.int_inv g2
    obtain ⟨a, vs, n, rfl, e, r⟩ := Rep.tuple_inv g1
    · skip
      obtain ⟨u, e1, hu⟩ := r.get hd
      have hsz : i.toNat < vs.toArray.size := by
        have := (List.getElem?_eq_some_iff.mp e1).1
        simpa using this
      refine getItem_tuple (t := a) (items := vs.toArray) (j := i.toNat) (IsTupOf (X.G.fro _ _ e)) (by omega) (by omega) ?_ (by simpa using e1) ⟨φ, .val _, Store.Le.refl φ, X, hu, h⟩
      have z : ¬ i < 0 := by omega
      simp only [seqIndex?, if_neg z]
      rw [if_pos]
      simp only [Bool.and_eq_true, decide_eq_true_eq]
      omega⟩
theorem Itr_tuple {ax I : Addr} {vs : List Value} {xs : List D} {n : Nat} : Itr C [I] I xs (fun _ => True) (fun i φ h => h.IsTupleIter I ax i ∧ φ ax = some (tupOf vs.toArray n) ∧ Reps φ C.β vs xs) where
  frame := fun i φ φ' h h' ⟨h1, h2, h3⟩ le hp => by
    obtain ⟨o, g1, g2⟩ := h1
    exact ⟨⟨o, (hp I (List.mem_singleton.mpr rfl)).trans g1, g2⟩, le _ _ h2, h3.mono le⟩
  item := fun i φ d A s target E P hA _ ⟨h1, h2, h3⟩ hfro hφ hx hP => by
    obtain ⟨v, hv, hr⟩ := h3.get hx
    refine wpAny_pyNext_tuple_item h1 (IsTupOf (hfro _ _ h2)) (by simpa using hv) fun h' hit hb => ?_
    refine ⟨v, rfl, ?_⟩
    obtain ⟨o, g1, g2, g3⟩ := id hit
    refine letGo_plain ⟨o, g1, g2, g3⟩ (by decide) (hP v h' s.toks (fun b o m e => hb.extBut b o (fun q => m (List.mem_singleton.mpr q)) e) ⟨hit, h2, h3⟩ (fun a m => ?_) (.inl hr))
    obtain rfl := List.mem_singleton.mp m
    exact ⟨o, (), g1, .inl ⟨_, g3⟩⟩
  done := fun i φ A s E P hA ⟨h1, h2, h3⟩ hfro hφ hx hP => by
    refine wpAny_pyNext_tuple_end hA h1 (IsTupOf (hfro _ _ h2)) ?_ fun h' hb => ⟨rfl, hP h' s.toks fun b o m e => hb b o (fun q => m (List.mem_singleton.mpr q)) e⟩
    have e1 := h3.length
    have e2 := List.getElem?_eq_none_iff.mp hx
    simp; omega
  self := fun i φ A s E P ⟨h1, _⟩ hP => wpAny_pyIter_tupleiter h1 hP
theorem ItOk_tuple {ds : List D} : ItOk C (.val (.tuple ds)) ds :=
  ⟨fun n F A env Ψ φ ρ vars bs s v hA X h => by
    obtain ⟨a, vs, n, rfl, h1, h2⟩ := Rep.tuple_inv h
    · skip
      refine wpAny_pyIter_tuple (IsTupOf (X.G.fro _ _ h1)) ?_
      refine ⟨[s.heap.objs.size], s.heap.objs.size, _, rfl, ⟨_, s.toks, rfl, fun b o e => Heap.get?_push_of_some _ e⟩, Itr_tuple (ax := a) (vs := vs) (n := n), ⟨⟨_, Heap.get?_push_size _ rfl, rfl, rfl⟩, h1, h2⟩, fun b m => ?_⟩
      obtain rfl := List.mem_singleton.mp m
      exact ⟨get?_size, ⟨_, (), Heap.get?_push_size _ rfl, .inl ⟨_, rfl⟩⟩⟩⟩
end
end Mine
end
section
set_option maxRecDepth 100000
set_option linter.unusedVariables false
namespace Mine
open PySem PySem.W PySem.Calls PyProof.Rows PySem.Spec MeetsSeq
abbrev ByteAt (b : Array UInt8) (i : Nat) (v : Value) : Prop := ∃ c u, b[i]? = some c ∧ v = .int (c.toNat : Int) u
section
variable {prog : Program} {w : World} {A : Around} {E : Value → Shared → Prop} {s : Shared}
end
section
variable {C : Cx} {k : R → Prop}
end
end Mine
end
section
set_option maxRecDepth 100000
set_option linter.unusedVariables false
namespace Mine
open PySem PySem.W PySem.Calls PyProof.Rows PySem.Spec MeetsSeq
theorem len1 {α : Type} {l : List α} (h : l.length = 1) : ∃ a, l = [a] := List.length_eq_one_iff.mp h
theorem lenS {α : Type} {l : List α} {n : Nat} (h : l.length = n + 1) : ∃ a m, l = a :: m ∧ m.length = n := by
  cases l with
  | nil => cases h
  | cons a m => exact ⟨a, m, rfl, Nat.succ.inj h⟩
theorem len2 {α : Type} {l : List α} (h : l.length = 2) : ∃ a b, l = [a, b] := by obtain ⟨a, m, rfl, h'⟩ := lenS h; obtain ⟨b, rfl⟩ := len1 h'; exact ⟨a, b, rfl⟩
theorem len3 {α : Type} {l : List α} (h : l.length = 3) : ∃ a b c, l = [a, b, c] := by obtain ⟨a, m, rfl, h'⟩ := lenS h; obtain ⟨b, c, rfl⟩ := len2 h'; exact ⟨a, b, c, rfl⟩
theorem len4 {α : Type} {l : List α} (h : l.length = 4) : ∃ a b c d, l = [a, b, c, d] := by obtain ⟨a, m, rfl, h'⟩ := lenS h; obtain ⟨b, c, d, rfl⟩ := len3 h'; exact ⟨a, b, c, d, rfl⟩
theorem len5 {α : Type} {l : List α} (h : l.length = 5) : ∃ a b c d e, l = [a, b, c, d, e] := by obtain ⟨a, m, rfl, h'⟩ := lenS h; obtain ⟨b, c, d, e, rfl⟩ := len4 h'; exact ⟨a, b, c, d, e, rfl⟩
noncomputable def fdAt (K : Frag) (a : Addr) : Option FuncData := match K.lookup a with
  | some ⟨_, _, .func fd, _⟩ => some fd
  | _ => none
noncomputable def bodyAt (K : Frag) (a : Addr) : List Stmt := match K.lookup a with
  | some ⟨_, _, .func fd, _⟩ => (match fd.body with | .stmts b => b | _ => [])
  | _ => []
noncomputable def scAt (K : Frag) (a : Addr) : Scope := match K.lookup a with
  | some ⟨_, _, .func fd, _⟩ => fd.scope
  | _ => default
noncomputable def isStmts : FuncBody → Bool
  | .stmts _ => true
  | _ => false
noncomputable def defOk (K : Frag) (a : Addr) : Bool := match K.lookup a with
  | some ⟨_, _, .func fd, _⟩ => fd.closure.isEmpty && fd.globals == mainGlobals && fd.builtins == builtinsNs && codeIn K fd.code fd.qualname && isStmts fd.body
  | _ => false
theorem DefAt.of {C : Cx} (ok : C.Ok) {f : Addr} {xs : List Str} (h : defOk C.K f = true)
    (hb : ∀ fd, fdAt C.K f = some fd → ∀ vs, vs.length = xs.length → ∀ s : Shared, C.K.In s.heap → BindsTo s fd ⟨vs, []⟩ (xs.zip vs)) : DefAt C f xs (bodyAt C.K f) (scAt C.K f) := by
  unfold defOk at h
  split at h
  · rename_i oc od fd sl ho
    simp only [Bool.and_eq_true, beq_iff_eq, List.isEmpty_iff] at h
    obtain ⟨⟨⟨⟨h1, h2⟩, h3⟩, h4⟩, h5⟩ := h
    have e1 : bodyAt C.K f = (match fd.body with | .stmts b => b | _ => []) := by unfold bodyAt; rw [ho]
    have e2 : scAt C.K f = fd.scope := by unfold scAt; rw [ho]
    have e3 : fdAt C.K f = some fd := by unfold fdAt; rw [ho]
    refine ⟨⟨oc, od, .func fd, sl⟩, fd, ok.kin _ _ ho, rfl, e2.symm, ?_, h1, h2, h3, codeRec_of ok.kin h4, fun s vs hk hl => hb fd e3 vs hl s (ok.kin.keeps hk)⟩
    rw [e1]
    revert h5
    cases fd.body <;> intro h5 <;> first | rfl | cases h5
  · cases h
theorem mg_of {C : Cx} (ok : C.Ok) {x : Str} {r : Option Value} (h : nsIn C.K mainGlobals x = some r) : C.mg x = r := by
  obtain ⟨o, es, ep, h1, h2, h3, h4⟩ := ok.g
  unfold nsIn at h
  split at h
  · rename_i oc od es' n' sl ho
    have := ok.kin _ _ ho
    rw [h1] at this
    cases this
    cases h2
    rw [← h4 x]
    unfold nsFind findBy
    rw [← Array.find?_toList]
    split at h
    · rename_i e he
      rw [he]; cases h; rfl
    · rename_i he
      rw [he]
      split at h
      · cases h
      · cases h; rfl
  · cases h
theorem bindsN {C : Cx} {s : Shared} {fd : FuncData} {vs : List Value} {binds : List (Str × Value)} (X : C.K.In s.heap) (e : ∀ S, peek C.K S (bindArgs fd ⟨vs, []⟩) = some binds) : BindsTo s fd ⟨vs, []⟩ binds :=
  fun M _ _ _ q => (Looks.of_peek (M := M) X (e _)).here q
end Mine
end
section
set_option maxRecDepth 100000
set_option linter.unusedVariables false
namespace Mine
open PySem PySem.W PySem.Calls PyProof.Rows PySem.Spec MeetsSeq
noncomputable def SubV (L v : Vars) : Prop := ∀ x sl, L.lookup x = some sl → v.lookup x = some sl
theorem SubV.nil {v : Vars} : SubV [] v := fun _ _ h => nomatch h
theorem SubV.cons {x : Str} {sl : Slot} {L v : Vars} (h : v.lookup x = some sl) (k : SubV L v) : SubV ((x, sl) :: L) v := fun y s e => by
  by_cases q : y = x
  · subst q; rw [lookup_self] at e; cases e; exact h
  · rw [lookup_ne q] at e; exact k y s e
theorem SubV.all {L v : Vars} (h : (L.map fun p => v.lookup p.1) = L.map fun p => some p.2) : SubV L v := by
  induction L with
  | nil => exact SubV.nil
  | cons p L ih =>
    rw [List.map_cons, List.map_cons, List.cons.injEq] at h
    exact SubV.cons h.1 (ih h.2)
section
variable {C : Cx} {F : Fm} {vars : Vars} {bs : BS}
/-- the end is hidden -/
theorem Ex_gen {ss : List Stmt} {Q : Vars → BS → Fl → Prop} (h : ∀ Q' : Vars → BS → Fl → Prop, (∀ v b f, Q v b f → Q' v b f) → Ex C F vars bs ss Q') : Ex C F vars bs ss Q := h Q fun _ _ _ x => x
theorem Ev.as {e : Expr} {Q : BS → R → Prop} (r : R) (h : Ev C F vars bs e fun b r' => b = bs ∧ r' = r) (q : Q bs r) : Ev C F vars bs e Q := h.mono fun b r' ⟨h1, h2⟩ => h1 ▸ h2 ▸ q
/-- a for over what enumerate or zip tell, by states -/
theorem Ex1_forS_src {α : Type} {target iter : Expr} {body orelse : List Stmt} {pos : Pos} {Q : Vars → BS → Fl → Prop} (P : List D → α → Prop) (L : α → Vars) (B : α → BS)
    (hi : Src C F vars bs target iter fun b xs => ∃ a, P xs a ∧ SubV (L a) vars ∧ b = B a)
    (turn : ∀ x rest a, P (x :: rest) a → ∀ I : Vars → BS → Prop, (∀ v2 b2, (∃ a', P rest a' ∧ SubV (L a') v2 ∧ b2 = B a') → I v2 b2) → ∃ nv, bindT target x = some nv ∧ Ex C F (nv ++ L a) (B a) body (TurnK I Q))
    (done : ∀ a, P [] a → Ex C F (L a) (B a) orelse Q) (ht : tgtOk F target = true) (hs : notSetE iter = true) : Ex1 C F vars bs (.For target iter body orelse pos) Q :=
  Ex1_for_src (fun xs v b => ∃ a, P xs a ∧ SubV (L a) v ∧ b = B a) hi
    (fun x rest v b ⟨a, h1, h2, h3⟩ => by
      obtain ⟨nv, k1, k2⟩ := turn x rest a h1 _ fun _ _ x => x
      subst h3
      refine ⟨nv, k1, Ex_weak (vars' := nv ++ L a) (fun y sl e => ?_) k2⟩
      clear k1 k2
      induction nv with
      | nil => exact h2 y sl e
      | cons q nv ih =>
        obtain ⟨z, s2⟩ := q
        by_cases w : y = z
        · subst w
          rw [List.cons_append, lookup_self] at e ⊢
          exact e
        · rw [List.cons_append, lookup_ne w] at e ⊢
          exact ih e)
    (fun v b ⟨a, h1, h2, h3⟩ => by subst h3; exact Ex_weak h2 (done a h1)) ht hs
theorem Ex1_forS {α : Type} {target iter : Expr} {body orelse : List Stmt} {pos : Pos} {Q : Vars → BS → Fl → Prop} (P : List D → α → Prop) (L : α → Vars) (B : α → BS)
    (hi : Ev C F vars bs iter fun b r => ∃ xs a, ItOk C r.norm xs ∧ P xs a ∧ SubV (L a) vars ∧ b = B a)
    (turn : ∀ x rest a, P (x :: rest) a → ∀ I : Vars → BS → Prop, (∀ v2 b2, (∃ a', P rest a' ∧ SubV (L a') v2 ∧ b2 = B a') → I v2 b2) → ∃ nv, bindT target x = some nv ∧ Ex C F (nv ++ L a) (B a) body (TurnK I Q))
    (done : ∀ a, P [] a → Ex C F (L a) (B a) orelse Q) (ht : tgtOk F target = true) (hs : notSetE iter = true) : Ex1 C F vars bs (.For target iter body orelse pos) Q :=
  Ex1_forS_src P L B (Src_ev (hi.mono fun b r ⟨xs, a, h1, h2⟩ => ⟨xs, h1, a, h2⟩)) turn done ht hs
theorem Ex1_whileS {α : Type} {test : Expr} {body orelse : List Stmt} {pos : Pos} {Q : Vars → BS → Fl → Prop} (P : α → Prop) (L : α → Vars) (B : α → BS) (μ : α → Nat)
    (h0 : ∃ a, P a ∧ SubV (L a) vars ∧ bs = B a)
    (turn : ∀ a, P a → ∀ I : Vars → BS → Prop, (∀ v2 b2, (∃ a', μ a' < μ a ∧ P a' ∧ SubV (L a') v2 ∧ b2 = B a') → I v2 b2) → Ts C F (L a) (B a) test fun b' c => (c = true → Ex C F (L a) b' body (TurnK I Q)) ∧ (c = false → Ex C F (L a) b' orelse Q)) : Ex1 C F vars bs (.While test body orelse pos) Q :=
  ⟨fun A env Ψ φ ρ s hA X => by
    obtain ⟨a0, p0, s0, rfl⟩ := h0
    refine wpAny_While (codeAny_whileLoop (fun n s' => ∃ φ' ρ' a, φ.Le φ' ∧ St C F env Ψ φ' ρ' (L a) (B a) s' ∧ P a ∧ μ a = n) (fun n s1 ⟨φ1, ρ1, a, le1, X1, i1, im⟩ => ?_) (μ a0) ⟨φ, ρ, a0, Store.Le.refl φ, X.weaken s0, p0, rfl⟩)
    refine wpAny_mono ((turn a i1 _ fun _ _ x => x).run A env Ψ φ1 ρ1 s1 hA X1) (fun c s2 ⟨φ2, b2, le2, X2, k2⟩ => ?_) fun _ _ x => x.elim
    cases c with
    | true =>
      refine wpAny_mono ((k2.1 rfl).run A env Ψ φ2 ρ1 s2 hA X2) (fun f s3 ⟨φ3, ρ3, v3, b3, fl, le3, X3, h3, k3⟩ => ?_) fun _ _ x => x.elim
      have le := (le1.trans le2).trans le3
      cases f with
      | next => cases fl <;> first | exact h3.elim | (obtain ⟨a', hm, hp, hs, rfl⟩ := k3; exact ⟨μ a', im ▸ hm, φ3, ρ3, a', le, X3.weaken hs, hp, rfl⟩)
      | cont => cases fl <;> first | exact h3.elim | (obtain ⟨a', hm, hp, hs, rfl⟩ := k3; exact ⟨μ a', im ▸ hm, φ3, ρ3, a', le, X3.weaken hs, hp, rfl⟩)
      | brk => cases fl <;> first | exact h3.elim | exact ⟨φ3, ρ3, v3, b3, .next, le, X3, trivial, k3⟩
      | ret v => cases fl <;> first | exact h3.elim | exact ⟨φ3, ρ3, v3, b3, _, le, X3, h3, k3⟩
    | false =>
      refine wpAny_mono ((k2.2 rfl).run A env Ψ φ2 ρ1 s2 hA X2) (fun f s3 ⟨φ3, ρ3, v3, b3, fl, le3, X3, h3, k3⟩ => ?_) fun _ _ x => x.elim
      exact ⟨φ3, ρ3, v3, b3, fl, (le1.trans le2).trans le3, X3, h3, k3⟩⟩
end
end Mine
end
section
set_option maxRecDepth 100000
set_option linter.unusedVariables false
namespace Mine
open PySem PySem.W PySem.Calls PyProof.Rows PySem.Spec MeetsSeq
section
variable {C : Cx} {F : Fm} {vars : Vars} {bs : BS} {e : Expr} {es : List Expr} {p pos : Pos} {Q : BS → R → Prop}
theorem Ev_len (ok : C.Ok) (hg : nsIn C.K mainGlobals ("len" : Str) = some none) (hk : F.sc.names.lookup ("len" : Str) = some .globalImplicit) (hs : notStar e = true) (h : Ev C F vars bs e fun b r => Op1 C (fun v => call (.builtin "len") [v] []) r.norm (Q b)) : Ev C F vars bs (.Call (.Name ("len" : Str) p) [e] [] pos) Q :=
  Ev_blt1 ok (mg_of ok hg) (by kernel_rfl) (by decide) (.builtin _) hk (by decide) hs h
theorem Ev_sum (ok : C.Ok) (hg : nsIn C.K mainGlobals ("sum" : Str) = some none) (hk : F.sc.names.lookup ("sum" : Str) = some .globalImplicit) (hs : notStar e = true) (h : Ev C F vars bs e fun b r => Op1 C (fun v => call (.builtin "sum") [v] []) r.norm (Q b)) : Ev C F vars bs (.Call (.Name ("sum" : Str) p) [e] [] pos) Q :=
  Ev_blt1 ok (mg_of ok hg) (by kernel_rfl) (by decide) (.builtin _) hk (by decide) hs h
theorem Ev_bytes (ok : C.Ok) (hg : nsIn C.K mainGlobals ("bytes" : Str) = some none) (hk : F.sc.names.lookup ("bytes" : Str) = some .globalImplicit) (hs : notStar e = true) (h : Ev C F vars bs e fun b r => Op1 C (fun v => call (.type "bytes") [v] []) r.norm (Q b)) : Ev C F vars bs (.Call (.Name ("bytes" : Str) p) [e] [] pos) Q :=
  Ev_blt1 ok (mg_of ok hg) (by kernel_rfl) (by decide) (.type _) hk (by decide) hs h
theorem Ev_range (ok : C.Ok) (hg : nsIn C.K mainGlobals ("range" : Str) = some none) (hk : F.sc.names.lookup ("range" : Str) = some .globalImplicit) (hs : (e :: es).all notStar = true) (h : EvD C F vars bs (e :: es) fun b ds => OpD C (fun vs => call (.type "range") vs []) ds (Q b)) : Ev C F vars bs (.Call (.Name ("range" : Str) p) (e :: es) [] pos) Q :=
  Ev_blt ok (mg_of ok hg) (by kernel_rfl) (by decide) (.type _) hk (by decide) hs h
theorem Ev_min (ok : C.Ok) (hg : nsIn C.K mainGlobals ("min" : Str) = some none) (hk : F.sc.names.lookup ("min" : Str) = some .globalImplicit) (hs : (e :: es).all notStar = true) (h : EvD C F vars bs (e :: es) fun b ds => OpD C (fun vs => call (.builtin "min") vs []) ds (Q b)) : Ev C F vars bs (.Call (.Name ("min" : Str) p) (e :: es) [] pos) Q :=
  Ev_blt ok (mg_of ok hg) (by kernel_rfl) (by decide) (.builtin _) hk (by decide) hs h
/-- a name of the text's top that stands for a function or a class -/
theorem Ev_fun {y : Str} {f : Addr} {n : Nat} (ok : C.Ok) (hf : nsIn C.K mainGlobals y = some (some (.ref f))) (hkp : keepIn C.K (.ref f) = true) (hk : F.sc.names.lookup y = some .globalImplicit) (hdb : (y == ("__debug__" : Str)) = false) (hn : n ≤ F.n) (hs : (e :: es).all notStar = true)
    (h : EvD C F vars bs (e :: es) fun b ds => Fn C n (.ref f) ds b Q) :
    Ev C F vars bs (.Call (.Name y p) (e :: es) [] pos) Q := Ev_callK ok (mg_of ok hf) hkp hk hdb h hn hs
theorem Ev_top {x : Str} {i : Int} {t : Tok} (ok : C.Ok) (hf : nsIn C.K mainGlobals x = some (some (.int i t))) (hk : F.sc.names.lookup x = some .globalImplicit) (hd : (x == ("__debug__" : Str)) = false) (h : Q bs (.val (.int i))) : Ev C F vars bs (.Name x pos) Q := Ev_global ok (mg_of ok hf) hk hd h
end
section
variable {C : Cx} {F : Fm} {vars : Vars} {bs : BS}
theorem Ex1_expr {e : Expr} {pos : Pos} {Q : Vars → BS → Fl → Prop} (hc : isComp e = false) (h : Ev C F vars bs e fun b r => r = .val .none ∧ Q vars b .next) : Ex1 C F vars bs (.Expr e pos) Q :=
  ⟨fun A env Ψ φ ρ s hA X => by
    refine wpAny_Expr (wpAny_mono (h.run A env Ψ φ ρ s hA X) (fun v s1 ⟨φ1, b1, r, le1, X1, h1, k0, k1⟩ => by subst k0; cases h1; exact ⟨φ1, ρ, vars, b1, .next, le1, X1, trivial, k1⟩) fun _ _ x => x) ?_ ?_
    · unfold interactive; rw [X.F.sc, X.F.kind]; rfl
    · exact swaps_none hc⟩
theorem Ev_dict0 {pos : Pos} {Q : BS → R → Prop} (h : Q bs (.val .any)) : Ev C F vars bs (.Dict [] [] pos) Q :=
  ⟨fun A env Ψ φ ρ s hA X => wpAny_Dict_empty ⟨φ, bs, .val .any, Store.Le.refl φ, X.grow (tk := s.toks) fun b o e => Heap.get?_push_of_some _ e, Rep.any _, h⟩⟩
end
/-- how far two places are alike -/
noncomputable def alikeF (oc : List Int) (p o : Nat) : Nat → Nat → Nat
  | 0, k => k
  | j + 1, k => if oc[p + k]? = oc[o + k]? then alikeF oc p o j (k + 1) else k
noncomputable def lenN (oc : List Int) (p o m : Nat) : Nat := alikeF oc p o (min m (oc.length - p)) 0
noncomputable def repN (oc : List Int) (w p d m : Nat) : Nat := if d < 1 ∨ p < d ∨ w < d then 0 else lenN oc p (p - d) m
end Mine
end
section
set_option maxRecDepth 100000
set_option linter.unusedVariables false
namespace Mine
open PySem PySem.W PySem.Calls PyProof.Rows PySem.Spec MeetsSeq
noncomputable def D.isInt : D → Bool
  | .int _ => true
  | _ => false
noncomputable def D.flat2 : D → Bool
  | .list ds => ds.all D.isInt
  | d => d.flat
theorem isInt_eq {d : D} (h : d.isInt = true) : ∃ i, d = .int i := by
  cases d with
  | int i => exact ⟨i, rfl⟩
  | _ => cases h
theorem Reps.ints2 {φ : Store} {β β' : Addr} {vs : List Value} {ds : List D} (r : Reps φ β vs ds) (k : ds.all D.isInt = true) : Reps φ β' vs ds := by
  induction ds generalizing vs with
  | nil => rw [Reps.nil_inv r]; exact .nil
  | cons d ds ih =>
    obtain ⟨v, ws, e, q, r⟩ := Reps.cons_inv r
    obtain ⟨k1, k2⟩ := Bool.and_eq_true_iff.mp (List.all_cons ▸ k)
    obtain ⟨i, g⟩ := isInt_eq k1
    rw [g] at q
    obtain ⟨t, g2⟩ := Rep.int_inv q
    rw [e, g, g2]; exact .cons (.int _ _) (ih r k2)
theorem flat2_cases {d : D} (hf : d.flat2 = true) : d.flat = true ∨ ∃ ds, d = .list ds ∧ ds.all D.isInt = true := by
  cases d with
  | list ds => exact .inr ⟨ds, rfl, hf⟩
  | _ => exact .inl hf
theorem Rep.flat2 {φ : Store} {β β' : Addr} {v : Value} {d : D} (h : Rep φ β v d) (hf : d.flat2 = true) : Rep φ β' v d := by
  rcases flat2_cases hf with q | ⟨ds, e, q⟩
  · exact forget_flat q ▸ h.forget
  · rw [e] at h ⊢
    obtain ⟨a, vs, n, g, h1, h2⟩ := Rep.list_inv h
    rw [g]; exact .list h1 (h2.ints2 q)
theorem flat2_ints (ns : List Int) : (D.list (ns.map D.int)).flat2 = true := by
  show (ns.map D.int).all D.isInt = true
  rw [List.all_eq_true]
  intro d hd
  obtain ⟨i, _, rfl⟩ := List.mem_map.mp hd
  rfl
noncomputable def flatSlot : Slot → Bool
  | .val d => d.flat2
  | _ => false
noncomputable def FlatRet (Q : D → Prop) : Fl → Prop
  | .ret (.val d) => d.flat = true ∧ Q d
  | _ => False
section
variable {C : Cx} {F : Fm} {vars : Vars}
/-- one's own list of two ints becomes the shared one -/
theorem Ex_box {x : Str} {a b : Int} {vars' : Vars} {ss : List Stmt} {Q : D → Prop} (hβ : ∃ o, C.H.get? C.β = some o) (hx : vars.lookup x = some (.mu [.int a, .int b])) (hv : SubV vars' vars) (hf : vars'.all (fun p => flatSlot p.2) = true)
    (h : ∀ β, Ex (C.at β) F ((x, .val .box) :: vars') (some (.two a b)) ss fun _ _ f => FlatRet Q f) : Ex C F vars none ss fun _ _ f => FlatRet Q f :=
  ⟨fun A env Ψ φ ρ s hA X => by
    obtain ⟨l, vs, n, h1, h2, h3, h4, h5, h6⟩ := X.F.mu x _ hx
    obtain ⟨oβ, hoβ⟩ := hβ
    have φβ := X.G.base _ _ hoβ
    have hval : ∀ y d, vars'.lookup y = some (.val d) → ∃ v, ρ y = some v ∧ Rep φ l v d := fun y d e => by
      obtain ⟨v, g1, g2⟩ := X.F.val y d (hv y _ e)
      refine ⟨v, g1, ?_⟩
      have hfl : d.flat2 = true := List.all_eq_true.mp hf _ (lookup_mem' e)
      exact g2.flat2 hfl
    have hnm : ∀ y es, vars'.lookup y ≠ some (.mu es) := fun y es e => by
      have := List.all_eq_true.mp hf _ (lookup_mem' e); cases this
    have hbox : BoxIs s.heap φ l (.two a b) := by
      obtain ⟨vs⟩ := vs
      obtain ⟨v1, w1, e1, r1, q1⟩ := Reps.cons_inv h3
      obtain ⟨v2, w2, e2, r2, q2⟩ := Reps.cons_inv q1
      obtain ⟨t1, g1⟩ := Rep.int_inv r1
      obtain ⟨t2, g2⟩ := Rep.int_inv r2
      have e : vs = [v1, v2] := by have := Reps.nil_inv q2; rw [this] at e2; rw [e2] at e1; exact e1
      rw [e, g1, g2] at h2
      exact ⟨_, _, _, h2⟩
    have X2 : St (C.at l) F env Ψ φ ρ ((x, .val .box) :: vars') (some (.two a b)) s := by
      refine ⟨⟨X.G.base, X.G.fro, X.G.pro, X.G.sep, ⟨_, h2⟩, fun p e => by cases e; exact ⟨hbox, h4, h5⟩, X.G.same⟩, X.F.sc, X.F.kind, X.F.glob, X.F.blt, X.F.ns, ⟨X.F.loc.1, X.F.loc.2.1, Ne.symm (X.ne_loc h2)⟩, X.F.cell, fun y hy => ?_, X.F.fr, fun y d e => ?_, fun y es e => ?_, fun y z es fs e => ?_⟩
      · obtain ⟨c, v, g1, g2, g3, g4, g5, g6⟩ := X.F.own y hy
        exact ⟨c, v, g1, g2, g3, g4, fun q => X.ne_cell h2 y hy (by rw [g1]; exact congrArg some q), g6⟩
      · by_cases q : y = x
        · subst q; rw [lookup_self] at e; cases e; exact ⟨_, h1, .box⟩
        · rw [lookup_ne q] at e; exact hval y d e
      · exfalso
        by_cases q : y = x
        · subst q; rw [lookup_self] at e; cases e
        · rw [lookup_ne q] at e; exact hnm y es e
      · exfalso
        by_cases q : y = x
        · subst q; rw [lookup_self] at e; cases e
        · rw [lookup_ne q] at e; exact hnm y es e
    refine wpAny_mono ((h l).run A env Ψ φ ρ s hA X2) (fun f s' ⟨φ', ρ', v', b', fl, le, X', hfv, hq⟩ => ?_) fun _ _ x => x
    have φβ' := le _ _ φβ
    have X3 : St C F env Ψ φ' ρ' [] none s' := by
      refine ⟨⟨X'.G.base, X'.G.fro, X'.G.pro, X'.G.sep, ⟨_, X'.G.fro _ _ φβ'⟩, fun p e => (nomatch e), X'.G.same⟩, X'.F.sc, X'.F.kind, X'.F.glob, X'.F.blt, X'.F.ns, ⟨X'.F.loc.1, X'.F.loc.2.1, fun q => by have := X'.F.loc.1; rw [q, φβ'] at this; cases this⟩, X'.F.cell, fun y hy => ?_, X'.F.fr, fun y d e => (nomatch e), fun y es e => (nomatch e), fun y z es fs e => (nomatch e)⟩
      obtain ⟨c, v, g1, g2, g3, g4, g5, g6⟩ := X'.F.own y hy
      have hne : c ≠ C.β := fun q => by rw [q, φβ'] at g3; cases g3
      exact ⟨c, v, g1, g2, g3, g4, hne, g6⟩
    cases fl with
    | ret r =>
      cases r with
      | val d =>
        obtain ⟨k1, k2⟩ := hq
        refine ⟨φ', ρ', [], none, .ret (.val d), le, X3, ?_, k1, k2⟩
        cases f with
        | ret v =>
          have : Rep φ' l v d := hfv
          exact (forget_flat k1 ▸ this.forget : Rep φ' C.β v d)
        | _ => exact hfv.elim
      | _ => exact hq.elim
    | _ => exact hq.elim⟩
end
end Mine
end
section
set_option maxRecDepth 100000
set_option linter.unusedVariables false
namespace Mine
open PySem PySem.W PySem.Calls PyProof.Rows PySem.Spec MeetsSeq
/-- the ints from a up, n of them -/
noncomputable def upto (a : Int) (n : Nat) : List Int := (List.range n).map fun (i : Nat) => a + (i : Int)
theorem rangeI_up (a b : Int) : rangeI a b 1 = upto a (b - a).toNat := by
  unfold rangeI upto
  rw [rangeSize_one]
  split
  · simp
  · rw [show (b - a).toNat = 0 by omega]; rfl
theorem upto_length (a : Int) (n : Nat) : (upto a n).length = n := by simp [upto]
theorem upto_zero (a : Int) : upto a 0 = [] := rfl
theorem upto_succ (a : Int) (n : Nat) : upto a (n + 1) = a :: upto (a + 1) n := by
  unfold upto
  rw [List.range_succ_eq_map, List.map_cons, List.map_map]
  congr 1
  · simp
  · apply List.map_congr_left; intro i _; simp; omega
theorem ItOk_up {C : Cx} {a b : Int} (ha : -(2 ^ 40) ≤ a ∧ a ≤ 2 ^ 40) (hb : -(2 ^ 40) ≤ b ∧ b ≤ 2 ^ 40) : ItOk C (.val (.range a b 1)) ((upto a (b - a).toNat).map D.int) := by
  rw [← rangeI_up]; exact ItOk_range ha hb (by decide) (by decide)
end Mine
end
section
set_option maxRecDepth 100000
set_option linter.unusedVariables false
namespace Mine
open PySem PySem.W PySem.Calls PyProof.Rows PySem.Spec MeetsSeq
section
variable {C : Cx} {F : Fm} {vars : Vars} {bs : BS}
/-- what a statement leaves, told once for all its ways -/
theorem Ex_cut {α : Type} {st : Stmt} {rest : List Stmt} {Q : Vars → BS → Fl → Prop} (P : α → Prop) (L : α → Vars) (B : α → BS) (h : ∀ I : Vars → BS → Prop, (∀ v b, (∃ a, P a ∧ SubV (L a) v ∧ b = B a) → I v b) → Ex1 C F vars bs st (NextK I Q))
    (k : ∀ a, P a → Ex C F (L a) (B a) rest Q) : Ex C F vars bs (st :: rest) Q :=
  Ex_cons ((h _ fun _ _ x => x).mono fun v b fl hh => by
    cases fl with
    | next => obtain ⟨a, h1, h2, rfl⟩ := hh; exact Ex_weak h2 (k a h1)
    | _ => exact hh)
end
theorem cut_take {α : Type} {l : List α} {n : Int} (h0 : 0 ≤ n) : cut none (some n) l = l.take n.toNat := by
  unfold cut
  simp only [Option.elim, List.drop_zero, Nat.sub_zero]
  by_cases q : n.toNat ≤ l.length
  · congr 1; unfold clipAt; omega
  · rw [List.take_of_length_le, List.take_of_length_le]
    · lia
    · unfold clipAt; lia
theorem cut_drop {α : Type} {l : List α} {n : Int} (h0 : 0 ≤ n) : cut (some n) none l = l.drop n.toNat := by
  unfold cut
  simp only [Option.elim]
  by_cases q : n.toNat ≤ l.length
  · have : clipAt l.length n = n.toNat := by unfold clipAt; omega
    rw [this, List.take_of_length_le]
    simp
  · rw [List.drop_of_length_le, List.drop_of_length_le]
    · simp
    · lia
    · unfold clipAt; lia
theorem cut_map {α β : Type} (f : α → β) (lo hi : Option Int) (l : List α) : cut lo hi (l.map f) = (cut lo hi l).map f := by
  simp [cut, List.map_take, List.map_drop]
theorem rep_length {α : Type} (l : List α) : ∀ n, (rep l n).length = l.length * n
  | 0 => by simp [rep]
  | n + 1 => by
    have := rep_length l n
    simp only [rep, List.replicate_succ, List.flatten_cons, List.length_append] at this ⊢
    rw [this, Nat.mul_succ]; lia
theorem rep_map {α β : Type} (f : α → β) (l : List α) (n : Nat) : rep (l.map f) n = (rep l n).map f := by
  simp [rep, List.map_flatten]
theorem mem_rep {α : Type} {l : List α} {n : Nat} {a : α} (h : a ∈ rep l n) : a ∈ l := by
  unfold rep at h
  obtain ⟨m, h1, h2⟩ := List.mem_flatten.mp h
  rw [(List.mem_replicate.mp h1).2] at h2; exact h2
/-- only the letters a, b and c -/
noncomputable def Lets (ls : List Int) : Prop := ∀ c ∈ ls, 97 ≤ c ∧ c ≤ 99
theorem Lets.app {a b : List Int} (h : Lets a) (k : Lets b) : Lets (a ++ b) := fun c hc => (List.mem_append.mp hc).elim (h c) (k c)
theorem Lets.take {a : List Int} (h : Lets a) (n : Nat) : Lets (a.take n) := fun c hc => h c (List.mem_of_mem_take hc)
theorem Lets.rep {a : List Int} (h : Lets a) (n : Nat) : Lets (rep a n) := fun c hc => h c (mem_rep hc)
theorem Lets.set {a : List Int} (h : Lets a) {n : Nat} {x : Int} (hx : 97 ≤ x ∧ x ≤ 99) : Lets (a.set n x) := fun c hc => by
  rcases List.mem_or_eq_of_mem_set hc with q | q
  · exact h c q
  · rw [q]; exact hx
end Mine
end
section
set_option maxRecDepth 100000
set_option linter.unusedVariables false
namespace Mine
open PySem PySem.W PySem.Calls PyProof.Rows PySem.Spec MeetsSeq
section
variable {C : Cx} {F : Fm} {vars : Vars} {bs : BS}
theorem TsL.mono {es : List Expr} {Q Q' : BS → Bool → Prop} (h : TsL C F vars bs es Q) (hq : ∀ b r, Q b r → Q' b r) : TsL C F vars bs es Q' :=
  ⟨fun A env Ψ φ ρ s hA X => wpAny_mono (h.run A env Ψ φ ρ s hA X) (fun _ _ ⟨φ', b, h1, h2, h4⟩ => ⟨φ', b, h1, h2, hq _ _ h4⟩) fun _ _ x => x⟩
/-- a comprehension that changes nothing: what it makes of each thing -/
structure CompP (C : Cx) (F : Fm) (vars : Vars) (bs : BS) (csc : Scope) (target elt : Expr) (ifs : List Expr) (xs : List D) (g : D → Option D) : Prop where
  turn : ∀ x ∈ xs, ∃ nv, bindT target x = some nv ∧ TsL C (compFm csc F) (nv ++ capt csc vars) bs ifs fun b' t =>
    (t = true → Ev C (compFm csc F) (nv ++ capt csc vars) b' elt fun b2 r => ValK (fun d => b2 = bs ∧ g x = some d) r.norm) ∧ (t = false → b' = bs ∧ g x = none)
  tgt : tgtOk (compFm csc F) target = true
  cok : cscOk csc = true
  free : freeOk csc F vars = true
  apart : (tgtNames target).all (fun x => !(csc.names.lookup x == some .free)) = true
  len : xs.length ≤ 16777215
theorem CompP.ok {csc : Scope} {target elt : Expr} {ifs : List Expr} {xs : List D} {g : D → Option D} (h : CompP C F vars bs csc target elt ifs xs g) :
    CompOk C F vars csc target elt ifs (fun rest acc b => ∃ pre, xs = pre ++ rest ∧ acc = pre.filterMap g ∧ b = bs) := by
  refine ⟨fun x rest acc b ⟨pre, e1, e2, e3⟩ => ?_, h.tgt, h.cok, h.free, h.apart⟩
  subst e3
  obtain ⟨nv, k1, k2⟩ := h.turn x (by rw [e1]; simp)
  refine ⟨nv, k1, k2.mono fun b' t ⟨k3, k4⟩ => ⟨fun ht => (k3 ht).mono fun b2 r hr => ?_, fun ht => ?_⟩⟩
  · revert hr
    generalize r.norm = r
    intro hr
    cases r with
    | val d =>
      obtain ⟨rfl, hg⟩ := hr
      refine ⟨?_, pre ++ [x], by rw [e1]; simp, by rw [List.filterMap_append, e2]; simp [hg], rfl⟩
      have := List.length_filterMap_le g pre
      have l := h.len
      rw [e1, List.length_append, List.length_cons] at l
      rw [e2]; omega
    | _ => exact hr.elim
  · obtain ⟨rfl, hg⟩ := k4 ht
    exact ⟨pre ++ [x], by rw [e1]; simp, by rw [List.filterMap_append, e2]; simp [hg], rfl⟩
theorem Ev_compP {target elt iter : Expr} {ifs : List Expr} {csc : Scope} {pos : Pos} {Q : BS → R → Prop} (xs : List D) (g : D → Option D)
    (hi : Ev C F vars bs iter fun b r => ItOk C r.norm xs ∧ b = bs ∧ Q bs (.own (xs.filterMap g))) (K : CompP C F vars bs csc target elt ifs xs g) (hs : notSetE iter = true) : Ev C F vars bs (.ListComp elt [⟨target, iter, ifs, 0⟩] csc pos) Q :=
  Ev_comp _ (hi.mono fun b r ⟨h1, h2, h3⟩ => ⟨xs, h1, ⟨[], rfl, rfl, h2⟩, fun acc b' ⟨pre, e1, e2, e3⟩ => by
    subst e3; rw [List.append_nil] at e1; subst e1 e2; exact h3⟩) K.ok hs
theorem Ex1_assign_compP {y : Str} {py : Pos} {target elt iter : Expr} {ifs : List Expr} {csc : Scope} {pos spos : Pos} {Q : Vars → BS → Fl → Prop} (xs : List D) (g : D → Option D)
    (hi : Ev C F vars bs iter fun b r => ItOk C r.norm xs ∧ b = bs ∧ Q ((y, .mu (xs.filterMap g)) :: vars) bs .next) (K : CompP C F vars bs csc target elt ifs xs g) (hs : notSetE iter = true) (hx : isLoc F y = true) :
    Ex1 C F vars bs (.Assign [.Name y py] (.ListComp elt [⟨target, iter, ifs, 0⟩] csc pos) spos) Q :=
  Ex1_assign_comp _ (hi.mono fun b r ⟨h1, h2, h3⟩ => ⟨xs, h1, ⟨[], rfl, rfl, h2⟩, fun acc b' ⟨pre, e1, e2, e3⟩ => by
    subst e3; rw [List.append_nil] at e1; subst e1 e2; exact h3⟩) K.ok hs hx
end
noncomputable def DL (l : List Int) : D := .list (l.map D.int)
theorem mem_upto {a : Int} {n : Nat} {x : Int} : x ∈ upto a n ↔ a ≤ x ∧ x < a + n := by
  unfold upto
  rw [List.mem_map]
  constructor
  · rintro ⟨i, hi, rfl⟩
    have := List.mem_range.mp hi; omega
  · rintro ⟨h1, h2⟩
    exact ⟨(x - a).toNat, List.mem_range.mpr (by omega), by omega⟩
noncomputable def gI (f : Int → Option D) : D → Option D
  | .int i => f i
  | _ => none
theorem filterMap_gI (f : Int → Option D) (l : List Int) : (l.map D.int).filterMap (gI f) = l.filterMap f := by
  rw [List.filterMap_map]; rfl
section
variable {C : Cx} {F : Fm} {vars : Vars} {bs : BS}
/-- a comprehension over ints that follow one another -/
theorem Ev_compR {x : Str} {px : Pos} {elt iter : Expr} {ifs : List Expr} {csc : Scope} {pos : Pos} {Q : BS → R → Prop} (a : Int) (n : Nat) (f : Int → Option D) (ha : -(2 ^ 20) ≤ a ∧ a ≤ 2 ^ 20) (hn : n ≤ 2 ^ 20)
    (hi : Ev C F vars bs iter fun b r => (∃ e, r.norm = .val (.range a e 1) ∧ -(2 ^ 30) ≤ e ∧ e ≤ 2 ^ 30 ∧ (e - a).toNat = n) ∧ b = bs ∧ Q bs (.own ((upto a n).filterMap f)))
    (turn : ∀ i, a ≤ i → i < a + n → TsL C (compFm csc F) ((x, .val (.int i)) :: capt csc vars) bs ifs fun b' t =>
      (t = true → Ev C (compFm csc F) ((x, .val (.int i)) :: capt csc vars) b' elt fun b2 r => ValK (fun d => b2 = bs ∧ f i = some d) r.norm) ∧ (t = false → b' = bs ∧ f i = none))
    (tgt : tgtOk (compFm csc F) (.Name x px) = true) (cok : cscOk csc = true) (free : freeOk csc F vars = true) (apart : (tgtNames (.Name x px)).all (fun x => !(csc.names.lookup x == some .free)) = true) (hs : notSetE iter = true) :
    Ev C F vars bs (.ListComp elt [⟨.Name x px, iter, ifs, 0⟩] csc pos) Q := by
  refine Ev_compP ((upto a n).map D.int) (gI f) (hi.mono fun b r ⟨⟨e, h1, h2, h3, h4⟩, h5, h6⟩ => ⟨?_, h5, by rw [filterMap_gI]; exact h6⟩) ⟨fun d hd => ?_, tgt, cok, free, apart, by rw [List.length_map, upto_length]; omega⟩ hs
  · rw [h1, ← h4]; exact ItOk_up (by omega) (by omega)
  · obtain ⟨i, hi, rfl⟩ := List.mem_map.mp hd
    obtain ⟨h1, h2⟩ := mem_upto.mp hi
    exact ⟨_, rfl, turn i h1 h2⟩
theorem Ex1_assign_compR {y : Str} {py : Pos} {x : Str} {px : Pos} {elt iter : Expr} {ifs : List Expr} {csc : Scope} {pos spos : Pos} {Q : Vars → BS → Fl → Prop} (a : Int) (n : Nat) (f : Int → Option D) (ha : -(2 ^ 20) ≤ a ∧ a ≤ 2 ^ 20) (hn : n ≤ 2 ^ 20)
    (hi : Ev C F vars bs iter fun b r => (∃ e, r.norm = .val (.range a e 1) ∧ -(2 ^ 30) ≤ e ∧ e ≤ 2 ^ 30 ∧ (e - a).toNat = n) ∧ b = bs ∧ Q ((y, .mu ((upto a n).filterMap f)) :: vars) bs .next)
    (turn : ∀ i, a ≤ i → i < a + n → TsL C (compFm csc F) ((x, .val (.int i)) :: capt csc vars) bs ifs fun b' t =>
      (t = true → Ev C (compFm csc F) ((x, .val (.int i)) :: capt csc vars) b' elt fun b2 r => ValK (fun d => b2 = bs ∧ f i = some d) r.norm) ∧ (t = false → b' = bs ∧ f i = none))
    (tgt : tgtOk (compFm csc F) (.Name x px) = true) (cok : cscOk csc = true) (free : freeOk csc F vars = true) (apart : (tgtNames (.Name x px)).all (fun x => !(csc.names.lookup x == some .free)) = true) (hs : notSetE iter = true) (hx : isLoc F y = true) :
    Ex1 C F vars bs (.Assign [.Name y py] (.ListComp elt [⟨.Name x px, iter, ifs, 0⟩] csc pos) spos) Q := by
  refine Ex1_assign_compP ((upto a n).map D.int) (gI f) (hi.mono fun b r ⟨⟨e, h1, h2, h3, h4⟩, h5, h6⟩ => ⟨?_, h5, by rw [filterMap_gI]; exact h6⟩) ⟨fun d hd => ?_, tgt, cok, free, apart, by rw [List.length_map, upto_length]; omega⟩ hs hx
  · rw [h1, ← h4]; exact ItOk_up (by omega) (by omega)
  · obtain ⟨i, hi, rfl⟩ := List.mem_map.mp hd
    obtain ⟨h1, h2⟩ := mem_upto.mp hi
    exact ⟨_, rfl, turn i h1 h2⟩
end
end Mine
end
section
set_option maxRecDepth 100000
set_option linter.unusedVariables false
namespace Mine
open PySem PySem.W PySem.Calls PyProof.Rows PySem.Spec MeetsSeq
section
variable {prog : Program} {w : World} {A : Around} {E : Value → Shared → Prop} {s : Shared}
theorem draw_list {it t : Addr} {items : Array Value} (hne : t ≠ it) : ∀ (n i : Nat) (s : Shared) (Q : List Value → Shared → Prop), s.heap.IsListIter it t i → s.heap.IsList t items → i + n ≤ items.size →
    (∀ h', h'.IsListIter it t (i + n) → Heap.SameBut it s.heap h' → Q ((items.toList.drop i).take n) { s with heap := h' }) → wpAny (model prog w) A (draw (.ref it) n) Q E s
  | 0, i, s, Q, hit, _, _, hQ => by
    show wpAny _ _ (pure []) Q E s
    exact wpAny_pure (by simpa using hQ s.heap hit (Heap.SameBut.refl ..))
  | n + 1, i, s, Q, hit, ht, hle, hQ => by
    have hlt : i < items.size := by omega
    show wpAny _ _ (pyNext (.ref it) >>= _) Q E s
    refine wpAny_bind (wpAny_pyNext_list_item hit ht (x := items[i]) (by simp [hlt]) fun h₁ hit₁ hs₁ => ?_)
    refine wpAny_bind (wpAny_holding (draw_list hne n (i + 1) _ _ hit₁ (ht.extBut hs₁.extBut hne) (by omega) fun h₂ hit₂ hs₂ => wpAny_pure ?_))
    have hd : items.toList.drop i = items[i] :: items.toList.drop (i + 1) := by simp [List.drop_eq_getElem_cons, hlt]
    have := hQ h₂ (by rw [show i + (n + 1) = i + 1 + n by omega]; exact hit₂) (hs₁.trans hs₂)
    rw [hd, List.take_succ_cons] at this
    exact this
theorem unpackItems_list {t : Addr} {items : Array Value} {Q : List Value → Shared → Prop} (hh : A.handled = none) (ht : s.heap.IsList t items)
    (hQ : ∀ h', Heap.ExtBut s.heap.objs.size s.heap h' → Q items.toList { s with heap := h' }) : wpAny (model prog w) A (unpackItems (.ref t) items.size none) Q E s := by
  have hlt : t ≠ s.heap.objs.size := by obtain ⟨o, ho, _⟩ := ht; exact Nat.ne_of_lt (Heap.lt_size ho)
  unfold unpackItems
  refine wpAny_bind ?_
  · unfold notIterableAtAll
    refine wpAny_bind (wpAny_specialOf ht.typeIs slot_list_iter.lookup ?_)
    refine wpAny_pure ?_
    simp only [Bool.false_eq_true, if_false]
    refine wpAny_bind (wpAny_holding (wpAny_pyIter_list ht ?_))
    refine wpAny_bind (wpAny_holding (draw_list hlt items.size 0 _ _ ⟨_, Heap.get?_push_size _ rfl, rfl, rfl⟩ (ht.push _) (by omega) fun h₁ hit₁ hs₁ => ?_))
    have hall : List.take items.size (List.drop 0 items.toList) = items.toList := by
      rw [List.drop_zero]; exact List.take_of_length_le (by simp)
    rw [hall]
    rw [if_neg (by simp)]
    have ht₁ : h₁.IsList t items := (ht.push _).extBut hs₁.extBut hlt
    refine wpAny_bind (wpAny_holding (wpAny_pyNext_list_end hh hit₁ ht₁ (by simp) fun h₂ he₂ => ?_))
    simp only [Option.isSome_none, Bool.false_eq_true, if_false]
    refine wpAny_pure (hQ h₂ fun b o hb e => he₂ b o hb (hs₁.extBut b o hb (Heap.get?_push_of_some _ e)))
theorem assign_TupleL {env : Env} {elts : List Expr} {x1} {pos : Pos} {t : Addr} {items : Array Value} {Q : Unit → Shared → Prop} (hh : A.handled = none) (ht : s.heap.IsList t items)
    (hn : (assignEach elts env).length = items.size) (hstar : (assignEach elts env).findIdx? (·.1) = none)
    (h : ∀ h', Heap.ExtBut s.heap.objs.size s.heap h' → wpAny (model prog w) A (assignInOrder ((assignEach elts env).map (·.2)) items.toList) Q E { s with heap := h' }) :
    wpAny (model prog w) A (assign (.Tuple elts x1 pos) env (.ref t)) Q E s := by
  rw [arm_assign_Tuple]
  refine wpAny_bind (wpAny_standAt ?_)
  unfold unpack
  rw [hn, hstar]
  exact wpAny_bind (wpAny_holding (unpackItems_list hh ht h))
end
section
variable {C : Cx} {F : Fm} {vars : Vars} {bs : BS} {Q : Vars → BS → Fl → Prop}
theorem assign_tgtL {env : Env} {Ψ φ : Store} {ρ : Str → Option Value} {s : Shared} {A : Around} {ts : List Expr} {k : Nat} {p : Pos} {v : Value} {ds : List D} {nv : Vars} {xs : List Str} {E : Value → Shared → Prop} {P : Unit → Shared → Prop} (hA : A.handled = none) (X : St C F env Ψ φ ρ vars bs s) (hv : Rep φ C.β v (.list ds)) (hn : namesOf ts = some xs) (hx : xs.all (isLoc F) = true) (hnd : xs.Nodup) (hb : putsOf xs (ds.map R.val) = some nv)
    (hP : ∀ ρ' s', St C F env Ψ φ ρ' (nv ++ vars) bs s' → P () s') : wpAny C.M A (assign (.Tuple ts k p) env v) P E s := by
  obtain ⟨a, vs, n, rfl, h1, h2⟩ := Rep.list_inv hv
  · skip
    have hT := IsListOf (X.G.fro _ _ h1)
    obtain ⟨hnames, hlen⟩ := putsOf_names hb
    rw [List.length_map] at hlen
    obtain ⟨a1, a2⟩ := assignEach_names (env := env) hn
    have e0 := h2.length
    refine assign_TupleL hA hT (by rw [a1]; simp; omega) a2 fun h' hbb => ?_
    have keep : ∀ b o, s.heap.get? b = some o → h'.get? b = some o := fun b o e => hbb b o (fun q => by subst q; exact absurd (Heap.lt_size e) (Nat.lt_irrefl _)) e
    obtain ⟨g1, g2⟩ := assigns_at (C := C) (env := env) hn
    obtain ⟨L, f1, f2, f3⟩ := reps_rvs (C := C) (vars := vars) (env := env) (Ψ := Ψ) (ρ := ρ) (s := s) h2
    obtain ⟨I, e1, e2, e3, e4, e5⟩ := items_of (C := C) (F := F) (env := env) (A := A) (ts := ts) (L := L) _ g1 (fun i x g ex eg => g2 i x g ex eg A) (List.all_eq_true.mp hx) (by rw [f2]; exact hb)
    rw [show vs.toArray.toList = I.map (·.v) from by rw [e2, f1], ← e1]
    refine store_list I Ψ φ ρ vars _ (X.grow (h := h') (tk := s.toks) keep) (by rw [e3]; exact f3.same keep) e5 fun ρ' s' X' => ?_
    refine hP ρ' s' (X'.ext fun x => ?_)
    rw [← List.map_reverse.symm, e4]
    exact (reverse_lookup (by rw [hnames]; exact hnd) x vars).symm
/-- x, y = e, of a list -/
theorem Ex1_unpackL {ts : List Expr} {k : Nat} {p pos : Pos} {e : Expr} {xs : List Str} (hn : namesOf ts = some xs) (hx : xs.all (isLoc F) = true) (hnd : xs.Nodup) (he : notTup e = true) (hc : isComp e = false)
    (h : Ev C F vars bs e fun b r => ValK (fun d => ∃ ds nv, d = .list ds ∧ putsOf xs (ds.map R.val) = some nv ∧ Q (nv ++ vars) b .next) r.norm) : Ex1 C F vars bs (.Assign [.Tuple ts k p] e pos) Q :=
  ⟨fun A env Ψ φ ρ s hA X => by
    refine wpAny_Assign_stores (wpAny_mono (one (K := fun b r => ValK (fun d => ∃ ds nv, d = .list ds ∧ putsOf xs (ds.map R.val) = some nv ∧ Q (nv ++ vars) b .next) r) h hA X) (fun v s1 ⟨φ1, b1, r, le, X1, h1, k1⟩ => ?_) fun _ _ x => x) (swaps_false (t := .Tuple ts k p) (line := pos.line) (env := env) hc) ?_
    · revert h1 k1
      generalize r.norm = r
      intro h1 k1
      cases r with
      | val d =>
        obtain ⟨ds, nv, rfl, hb, hq⟩ := k1
        show wpAny C.M A (assign (.Tuple ts k p) env v) _ _ _
        exact assign_tgtL hA.1 X1 h1 hn hx hnd hb fun ρ' s' X' => ⟨φ1, ρ', _, b1, .next, le, X', trivial, hq⟩
      | _ => exact k1.elim
    · exact stores_none he⟩
end
end Mine
end
section
set_option maxRecDepth 100000
set_option linter.unusedVariables false
namespace Mine
open PySem PySem.W PySem.Calls PyProof.Rows PySem.Spec MeetsSeq
end Mine
end
section
set_option maxRecDepth 100000
set_option linter.unusedVariables false
namespace Mine
open PySem PySem.W PySem.Calls PyProof.Rows PySem.Spec MeetsSeq
noncomputable def enumD (xs : List D) : List D := xs.mapIdx fun i d => .tuple [.int (i : Int), d]
noncomputable def zipD (xs ys : List D) : List D := List.zipWith (fun a b => D.tuple [a, b]) xs ys
section
variable {C : Cx} {F : Fm} {vars : Vars} {bs : BS}
theorem nm {b z : Addr} {l : List Addr} (m : b ∉ l) (h : z ∈ l) : b ≠ z := fun q => m (q ▸ h)
theorem all2 {P : Addr → Prop} {a b : Addr} (h1 : P a) (h2 : P b) : ∀ x ∈ [a, b], P x := List.forall_mem_cons.mpr ⟨h1, List.forall_mem_cons.mpr ⟨h2, fun _ h => nomatch h⟩⟩
theorem all5 {P : Addr → Prop} {a b c d e : Addr} (h1 : P a) (h2 : P b) (h3 : P c) (h4 : P d) (h5 : P e) : ∀ x ∈ [a, b, c, d, e], P x := List.forall_mem_cons.mpr ⟨h1, List.forall_mem_cons.mpr ⟨h2, List.forall_mem_cons.mpr ⟨h3, all2 h4 h5⟩⟩⟩
theorem itF {h : Heap} {a : Addr} {o : Obj} {vs : Array Value} (g : h.get? a = some o) (e : o.data = .fields vs) : IsFields h a := ⟨o, (), g, .inl ⟨vs, e⟩⟩
theorem itT {h : Heap} {a : Addr} {vs : Array Value} {n : Nat} (g : h.get? a = some (tupOf vs n)) : IsFields h a := ⟨_, (), g, .inr ⟨vs, n, rfl⟩⟩
theorem itI {h : Heap} {a b : Addr} {i : Nat} (g : h.IsListIter a b i) : IsFields h a := by
  obtain ⟨o, g1, g2, g3⟩ := g
  exact itF g1 g3
theorem Itr_enum {ax e I : Addr} {vs : List Value} {xs : List D} {n : Nat} {elts : List Expr} {x1 : Nat} {pos : Pos} (hne : e ≠ I) :
    Itr C [e, I] e (enumD xs) (fun t => t = .Tuple elts x1 pos) (fun i φ h => (∃ old, IsEnum h e I i old) ∧ h.IsListIter I ax i ∧ φ ax = some (listOf vs.toArray n) ∧ Reps φ C.β vs xs) where
  frame := fun i φ φ' h h' ⟨⟨old, h0⟩, h1, h2, h3⟩ le hp => by
    obtain ⟨o, g1, g2⟩ := h1
    exact ⟨⟨old, (hp e (.head _)).trans h0⟩, ⟨o, (hp I (.tail _ (.head _))).trans g1, g2⟩, le _ _ h2, h3.mono le⟩
  item := fun i φ d A s target E P hA ht ⟨⟨old, h0⟩, h1, h2, h3⟩ hfro hφ hx hP => by
    subst ht
    unfold enumD at hx
    rw [List.getElem?_mapIdx] at hx
    obtain ⟨d0, hd0, rfl⟩ := Option.map_eq_some_iff.mp hx
    obtain ⟨v, hv, hr⟩ := h3.get hd0
    have hs : s.heap.get? s.heap.objs.size = none := get?_size
    have hel : e < s.heap.objs.size := Heap.lt_size h0
    refine wpAny_pyNext_enum_item h0 h1 (IsListOf (hfro _ _ h2)) (by simpa using hv) hne fun h' heo hit ht hz hk => ?_
    refine ⟨_, rfl, ?_⟩
    refine wpAny_letOwnedTupleGo_enum heo fun h2' he2 hs2 => ?_
    have hs2 : Heap.SameBut e h' h2' := hs2
    have hit2 : h2'.IsListIter I ax (i + 1) := hit.extBut hs2.extBut (Ne.symm hne)
    have he2' : IsEnum h2' e I ((i + 1 : Nat) : Int) v := by rw [Int.natCast_add]; exact he2
    refine hP _ h2' (s.toks + 1) (fun b o m e' => ?_) ⟨⟨v, he2'⟩, hit2, h2, h3⟩ (all2 (itF he2' rfl) (itI hit2)) (.inr ⟨s.heap.objs.size, [.int i s.toks, v], _, rfl, rfl, hs, ?_, .cons (.int _ _) (.cons hr .nil)⟩)
    · exact hs2.extBut b o (nm m (.head _)) (hk b o (nm m (.head _)) (nm m (.tail _ (.head _))) e')
    · exact hs2.extBut _ _ (Nat.ne_of_gt hel) ht
  done := fun i φ A s E P hA ⟨⟨old, h0⟩, h1, h2, h3⟩ hfro hφ hx hP => by
    unfold enumD at hx
    rw [List.getElem?_mapIdx] at hx
    have hx' := Option.map_eq_none_iff.mp hx
    refine wpAny_pyNext_enum_end hA h0 h1 (IsListOf (hfro _ _ h2)) ?_ fun h' hb => ⟨rfl, hP h' s.toks fun b o m e => hb b o (nm m (.tail _ (.head _))) e⟩
    have e1 := h3.length
    have e2 := List.getElem?_eq_none_iff.mp hx'
    simp; omega
  self := fun i φ A s E P ⟨⟨old, h0⟩, _⟩ hP => wpAny_pyIter_enum h0 hP
theorem Itr_zip {z TI TO i1 i2 l1 l2 : Addr} {vs ws : List Value} {xs ys : List D} {n m : Nat} {elts : List Expr} {x1 : Nat} {pos : Pos} (D0 : ZipApart z TI TO i1 i2 l1 l2) :
    Itr C [z, TI, TO, i1, i2] z (zipD xs ys) (fun t => t = .Tuple elts x1 pos) (fun i φ h => IsZip h z TI TO .none ∧ IsPair h TI (.ref i1) (.ref i2) ∧ (∃ a b, IsPair h TO a b) ∧ h.IsListIter i1 l1 i ∧ h.IsListIter i2 l2 i ∧
      (φ l1 = some (listOf vs.toArray n) ∧ Reps φ C.β vs xs) ∧ (φ l2 = some (listOf ws.toArray m) ∧ Reps φ C.β ws ys)) where
  frame := fun i φ φ' h h' ⟨hz, hTI, ⟨a, b, hTO⟩, h1, h2, ⟨f1, r1⟩, f2, r2⟩ le hp => by
    obtain ⟨o, g1, g2⟩ := h1
    obtain ⟨o', g3, g4⟩ := h2
    exact ⟨(hp z (.head _)).trans hz, (hp TI (.tail _ (.head _))).trans hTI, ⟨a, b, (hp TO (.tail _ (.tail _ (.head _)))).trans hTO⟩, ⟨o, (hp i1 (.tail _ (.tail _ (.tail _ (.head _))))).trans g1, g2⟩, ⟨o', (hp i2 (.tail _ (.tail _ (.tail _ (.tail _ (.head _)))))).trans g3, g4⟩, ⟨le _ _ f1, r1.mono le⟩, le _ _ f2, r2.mono le⟩
  item := fun i φ d A s target E P hA ht ⟨hz, hTI, ⟨a, b, hTO⟩, h1, h2, ⟨f1, r1⟩, f2, r2⟩ hfro hφ hx hP => by
    subst ht
    unfold zipD at hx
    rw [List.getElem?_zipWith_eq_some] at hx
    obtain ⟨d1, d2, hd1, hd2, rfl⟩ := hx
    obtain ⟨v, hv, hr⟩ := r1.get hd1
    obtain ⟨u, hu, hr2⟩ := r2.get hd2
    have hs : s.heap.get? s.heap.objs.size = none := get?_size
    have hzl : z < s.heap.objs.size := Heap.lt_size hz
    refine wpAny_pyNext_zip_item D0 hz hTI hTO h1 h2 (IsListOf (hfro _ _ f1)) (IsListOf (hfro _ _ f2)) (by simpa using hv) (by simpa using hu) fun h' a1 a2 a3 a4 a5 a6 hk => ?_
    refine ⟨_, rfl, ?_⟩
    refine wpAny_letOwnedTupleGo_zip a1 fun h2' hz2 hs2 => ?_
    have hs2 : Heap.SameBut z h' h2' := hs2
    have k1 : h2'.IsListIter i1 l1 (i + 1) := a3.extBut hs2.extBut D0.i1z
    have k2 : h2'.IsListIter i2 l2 (i + 1) := a4.extBut hs2.extBut D0.i2z
    have k3 : IsPair h2' TI (.ref i1) (.ref i2) := hs2.extBut _ _ D0.TIz (hk _ _ D0.TIz D0.TITO D0.TIi1 D0.TIi2 hTI)
    have k4 : IsPair h2' TO v u := hs2.extBut _ _ D0.TOz a2
    refine hP _ h2' s.toks (fun b o m e' => ?_) ⟨hz2, k3, ⟨_, _, k4⟩, k1, k2, ⟨f1, r1⟩, f2, r2⟩ (all5 (itF hz2 rfl) (itT k3) (itT k4) (itI k1) (itI k2)) (.inr ⟨s.heap.objs.size, [v, u], _, rfl, rfl, hs, ?_, .cons hr (.cons hr2 .nil)⟩)
    · exact hs2.extBut b o (nm m (.head _)) (hk b o (nm m (.head _)) (nm m (.tail _ (.tail _ (.head _)))) (nm m (.tail _ (.tail _ (.tail _ (.head _))))) (nm m (.tail _ (.tail _ (.tail _ (.tail _ (.head _)))))) e')
    · exact hs2.extBut _ _ (Nat.ne_of_gt hzl) a5
  done := fun i φ A s E P hA ⟨hz, hTI, ⟨a, b, hTO⟩, h1, h2, ⟨f1, r1⟩, f2, r2⟩ hfro hφ hx hP => by
    unfold zipD at hx
    have hl := List.getElem?_eq_none_iff.mp hx
    rw [List.length_zipWith] at hl
    have e1 := r1.length
    have e2 := r2.length
    refine wpAny_pyNext_zip_end hA D0 hz hTI hTO h1 h2 (IsListOf (hfro _ _ f1)) (IsListOf (hfro _ _ f2)) ?_ fun h' hk => ⟨rfl, hP h' s.toks fun b o m e => hk b o (nm m (.head _)) (nm m (.tail _ (.tail _ (.head _)))) (nm m (.tail _ (.tail _ (.tail _ (.head _))))) (nm m (.tail _ (.tail _ (.tail _ (.tail _ (.head _)))))) e⟩
    by_cases q : vs.length ≤ i
    · left; simp; omega
    · right; simp; omega
  self := fun i φ A s E P ⟨hz, _⟩ hP => wpAny_pyIter_zip hz hP
theorem Src_enum {e : Expr} {elts : List Expr} {k : Nat} {p tp pos : Pos} {K : BS → List D → Prop} (ok : C.Ok) (hg : nsIn C.K mainGlobals ("enumerate" : Str) = some none) (hk : F.sc.names.lookup ("enumerate" : Str) = some .globalImplicit) (hs : notStar e = true)
    (h : EvD C F vars bs [e] fun b ds => ∃ l, ds = [.list l] ∧ K b (enumD l)) : Src C F vars bs (.Tuple elts k tp) (.Call (.Name ("enumerate" : Str) p) [e] [] pos) K :=
  ⟨fun A env Ψ φ ρ s hA X => by
    show wpAny C.M A (do callWith pos (← eval (.Name ("enumerate" : Str) p) env) [] (backTo pos (starEach [e] env)) []) _ _ s
    refine wpAny_bind (builtin_at (v := .type "enumerate") ok X (mg_of ok hg) (by kernel_rfl) (by decide) hk (by decide) ?_)
    refine callWith_blt (.type _) (plain_args (by rw [List.all_cons, hs]; rfl)).1 (evalArgs_at hA X h hs fun vs s' φ' bs' ds le X' hr ⟨l, e1, hq⟩ => ?_)
    subst e1
    obtain ⟨v, rfl, h1⟩ := reps1 hr
    obtain ⟨a, us, n, rfl, h1, h2⟩ := Rep.list_inv h1
    · skip
      refine call_enumerate_list (IsListOf (X'.G.fro _ _ h1)) fun h' he hit hz hkp => ?_
      refine wpAny_pyIter_enum he ?_
      refine .intro φ' bs' [s'.heap.objs.size + 1, s'.heap.objs.size] (s'.heap.objs.size + 1) _ (enumD l) le (X'.grow (tk := s'.toks) hkp) (Itr_enum (ax := a) (vs := us) (n := n) (by simp)) ⟨⟨_, he⟩, hit, h1, h2⟩ ?_ hq
      have nw : ∀ b, s'.heap.get? b = none → IsFields h' b → φ' b = none ∧ Ψ b = none ∧ b ≠ C.β ∧ IsFields h' b := fun b g k => ⟨(X'.G.new g).1, (X'.G.new g).2, X'.bne g, k⟩
      exact all2 (nw _ (get?_ge (Nat.le_succ _)) (itF he rfl)) (nw _ get?_size (itI hit))⟩
theorem Src_zip {e f : Expr} {elts : List Expr} {k : Nat} {p tp pos : Pos} {K : BS → List D → Prop} (ok : C.Ok) (hg : nsIn C.K mainGlobals ("zip" : Str) = some none) (hk : F.sc.names.lookup ("zip" : Str) = some .globalImplicit) (hs : [e, f].all notStar = true)
    (h : EvD C F vars bs [e, f] fun b ds => ∃ l m, ds = [.list l, .list m] ∧ K b (zipD l m)) : Src C F vars bs (.Tuple elts k tp) (.Call (.Name ("zip" : Str) p) [e, f] [] pos) K :=
  ⟨fun A env Ψ φ ρ s hA X => by
    show wpAny C.M A (do callWith pos (← eval (.Name ("zip" : Str) p) env) [] (backTo pos (starEach [e, f] env)) []) _ _ s
    refine wpAny_bind (builtin_at (v := .type "zip") ok X (mg_of ok hg) (by kernel_rfl) (by decide) hk (by decide) ?_)
    refine callWith_blt (.type _) (plain_args hs).1 (evalArgs_at hA X h (Bool.and_eq_true_iff.mp (List.all_cons ▸ hs)).1 fun vs s' φ' bs' ds le X' hr ⟨l, m, e1, hq⟩ => ?_)
    subst e1
    obtain ⟨v, u, rfl, h1, h2⟩ := reps2 hr
    obtain ⟨a, us, n, rfl, h1, r1⟩ := Rep.list_inv h1
    obtain ⟨b, ws, n', rfl, h2, r2⟩ := Rep.list_inv h2
    · skip
      have la : a < s'.heap.objs.size := Heap.lt_size (X'.G.fro _ _ h1)
      have lb : b < s'.heap.objs.size := Heap.lt_size (X'.G.fro _ _ h2)
      refine call_zip_2 (IsListOf (X'.G.fro _ _ h1)) (IsListOf (X'.G.fro _ _ h2)) fun h' a1 a2 a3 a4 a5 a6 hkp => ?_
      refine wpAny_pyIter_zip a1 ?_
      have D0 : ZipApart (s'.heap.objs.size + 4) (s'.heap.objs.size + 2) (s'.heap.objs.size + 3) s'.heap.objs.size (s'.heap.objs.size + 1) a b := by
        constructor <;> simp [Addr] at * <;> omega
      refine .intro φ' bs' _ (s'.heap.objs.size + 4) _ (zipD l m) le (X'.grow (tk := s'.toks) hkp) (Itr_zip (vs := us) (ws := ws) (n := n) (m := n') D0) ⟨a1, a2, ⟨_, _, a3⟩, a4, a5, ⟨h1, r1⟩, h2, r2⟩ ?_ hq
      have nw : ∀ b, s'.heap.get? b = none → IsFields h' b → φ' b = none ∧ Ψ b = none ∧ b ≠ C.β ∧ IsFields h' b := fun b g k => ⟨(X'.G.new g).1, (X'.G.new g).2, X'.bne g, k⟩
      exact all5 (nw _ (get?_ge (Nat.le_add_right _ 4)) (itF a1 rfl)) (nw _ (get?_ge (Nat.le_add_right _ 2)) (itT a2)) (nw _ (get?_ge (Nat.le_add_right _ 3)) (itT a3)) (nw _ get?_size (itI a4)) (nw _ (get?_ge (Nat.le_add_right _ 1)) (itI a5))⟩
end
end Mine
end
section
set_option maxRecDepth 100000
set_option linter.unusedVariables false
namespace Mine
open PySem PySem.W PySem.Calls PyProof.Rows PySem.Spec MeetsSeq
section
variable {C : Cx} {F : Fm} {vars : Vars} {bs : BS}
theorem Ex1_assign_compP_src {y : Str} {py : Pos} {target elt iter : Expr} {ifs : List Expr} {csc : Scope} {pos spos : Pos} {Q : Vars → BS → Fl → Prop} (xs : List D) (g : D → Option D)
    (hi : Src C F vars bs target iter fun b ys => ys = xs ∧ b = bs ∧ Q ((y, .mu (xs.filterMap g)) :: vars) bs .next) (K : CompP C F vars bs csc target elt ifs xs g) (hs : notSetE iter = true) (hx : isLoc F y = true) :
    Ex1 C F vars bs (.Assign [.Name y py] (.ListComp elt [⟨target, iter, ifs, 0⟩] csc pos) spos) Q :=
  Ex1_assign_comp_src _ (hi.mono fun b ys ⟨e1, e2, hq⟩ => ⟨⟨[], by rw [e1]; rfl, rfl, e2⟩, fun acc b' ⟨pre, f1, f2, f3⟩ => by
    subst f3; rw [List.append_nil] at f1; subst f1 f2; exact hq⟩) K.ok hs hx
end
end Mine
end
section
set_option maxRecDepth 100000
set_option linter.unusedVariables false
namespace Mine
open PySem PySem.W PySem.Calls PyProof.Rows PySem.Spec MeetsSeq
/-- a law's call, at the end of the head -/
theorem kp_of {K K' : Frag} {h : Heap} (x : K.In h) (e : K'.map (fun p => List.lookup p.1 K) = K'.map fun p => some p.2) : K'.In h := by
  intro a o hl
  have m : (a, o) ∈ K' := by
    clear x e
    induction K' with
    | nil => cases hl
    | cons p l ih =>
      obtain ⟨b, q⟩ := p
      by_cases w : a = b
      · subst w
        rw [List.lookup_cons_self] at hl
        cases hl
        exact List.mem_cons_self
      · rw [List.lookup_cons, show (a == b) = false by simpa using w] at hl
        exact List.mem_cons_of_mem _ (ih hl)
  exact x a o (List.map_inj_left.mp e (a, o) m)
theorem join_law {c : ClaimW} {cl : Str → Option Addr} {mean : ExcName → Option Value} {args : List WData} {prog : Program} {w : World} {s₁ : Shared} {mg mb : Str → Option Value} {fa a : Addr} {vs : List Value} {ns : List Int} {n : Nat}
    (hn : n ≤ 20) (hr : ∀ cls, c.raises args cls = false) (hp : c.post args (.bool true) args = true) (hg : s₁.gens = #[]) (g : s₁.heap.Ns mainGlobals mg)
    (hl : s₁.heap.get? a = some (listOf vs.toArray 0)) (hI : IntsAre vs ns)
    (hf : (∃ o, s₁.heap.get? mainGlobals = some o) → Fn ⟨prog, w, s₁, s₁.heap, mg, mb, mainGlobals⟩ n (.ref fa) [.list (ns.map D.int)] none (fun _ r => r = .val (.bool true))) :
    codeAny (model prog w) callerA (.call (.ref fa) ⟨[.ref a], []⟩) (GoodWG c cl mean args s₁) s₁ := by
  have hβ : ∃ o, s₁.heap.get? mainGlobals = some o := by obtain ⟨o, _, _, h, _⟩ := g; exact ⟨o, h⟩
  have G : GSt ⟨prog, w, s₁, s₁.heap, mg, mb, mainGlobals⟩ (fun _ => none) (fun b => s₁.heap.get? b) none s₁ :=
    ⟨fun _ _ e => e, fun _ _ e => e, fun _ _ e => (nomatch e), fun _ _ _ => rfl, hβ, fun _ e => (nomatch e), s₁.heap, s₁.toks, rfl⟩
  have hA : AOk n callerA := by
    refine ⟨rfl, ?_, ?_⟩
    · have : callerA.depth + 3 * 20 + 5 < recursionLimit := by decide +kernel
      lia
    · have : callerA.units + 40 * 20 + 150 < cLine := by decide +kernel
      lia
  refine codeAny_mono ((hf hβ).run callerA _ _ s₁ [.ref a] hA G (.cons (.list hl (ints_rep hI)) .nil)) (fun r s' h => ?_)
  cases r with
  | error e => exact h.elim
  | ok f =>
    cases f with
    | ret v =>
      obtain ⟨φ', bs', r, le, G', hv, rfl⟩ := h
      cases hv with
      | bool b =>
        refine ⟨.inl ⟨_, _, _, rfl, hr, .bool _, hp, fun _ => ⟨List.nodup_nil, fun _ h => (nomatch h)⟩⟩, .of_keep fun b o e => G'.fro b o (le _ _ e), ?_, ?_⟩
        · obtain ⟨h, tk, rfl⟩ := G'.same; rfl
        · obtain ⟨h, tk, rfl⟩ := G'.same; exact .of_eq hg
    | _ => exact h.elim
end Mine
end
namespace Mine
open PySem PySem.W PySem.Calls PyProof.Rows PySem.Spec MeetsSeq
local macro_rules | `(tactic| walk_at "mine") => `(tactic| first
  | refine EvD_nil ?_
  | refine EvD_cons ?_ (by rfl)
  | refine EvL_nil ?_
  | refine EvL_cons ?_ (by rfl)
  | refine Ex_cons ?_
  | refine Ex_nil ?_
  | refine Ex1_ret ?_
  | refine Ex1_if ?_
  | refine Ts_cmp ?_ (by rfl)
  | refine Ts_boolop (TsA_and ?_)
  | refine Ts_not ?_
  | refine Ev_int ?_
  | refine Ev_bool ?_
  | refine Ev_none ?_
  | refine Ev_name (by rfl) (by rfl) ?_
  | refine Ev_name_mu (by rfl) (by rfl) ?_
  | refine Ev_bin ?_
  | refine Ev_cmp ?_ (by rfl)
  | refine Ev_slice ?_
  | refine Ev_sub ?_ (by rfl)
  | refine Ev_len (by assumption) (by rfl) (by rfl) (by rfl) ?_
  | refine Ev_min (by assumption) (by rfl) (by rfl) (by rfl) ?_
  | refine Ev_range (by assumption) (by rfl) (by rfl) (by rfl) ?_
  | refine add_i ?_ | refine sub_i ?_ | refine lt_i ?_ | refine gt_i ?_ | refine le_i ?_ | refine ge_i ?_ | refine eq_i ?_ | refine ne_i ?_ | refine iadd_i ?_ | refine neg_i ?_)
section
set_option maxRecDepth 100000
set_option linter.unusedVariables false
theorem D_limit {C : Cx} (ok : C.Ok) : DefAt C 138 ["self", "place", "most"] (bodyAt C.K 138) (scAt C.K 138) := by
  refine DefAt.of ok (by rfl) fun fd e vs hl s X => bindsN X fun S => ?_
  cases e
  obtain ⟨a, b, c, rfl⟩ := len3 hl
  rfl
theorem D_alike {C : Cx} (ok : C.Ok) : DefAt C 152 ["self", "place", "other", "known", "limit"] (bodyAt C.K 152) (scAt C.K 152) := by
  refine DefAt.of ok (by rfl) fun fd e vs hl s X => bindsN X fun S => ?_
  cases e
  obtain ⟨a, b, c, d, f, rfl⟩ := len5 hl
  rfl
/-- what of an object of the project the walk needs -/
structure Obj (C : Cx) (Cl : Addr) (fs : List (Str × D)) (oc : List Int) (w : Nat) : Prop where
  octets : fs.lookup ("octets" : Str) = some (.bytes oc)
  window : fs.lookup ("window" : Str) = some (.int w)
  f1 : FieldOk C.K Cl "octets"
  f2 : FieldOk C.K Cl "window"
  m1 : MethOk C.K Cl "limit" 138 ∧ fs.lookup ("limit" : Str) = none
  m2 : MethOk C.K Cl "alike" 152 ∧ fs.lookup ("alike" : Str) = none
  m3 : MethOk C.K Cl "length" 145 ∧ fs.lookup ("length" : Str) = none
  m4 : MethOk C.K Cl "repeat" 166 ∧ fs.lookup ("repeat" : Str) = none
  size : oc.length ≤ 1000
theorem limit_ok {C : Cx} (ok : C.Ok) {n w : Nat} {Cl : Addr} {fs : List (Str × D)} {oc : List Int} {p m : Int} {bs : BS} {Q : BS → R → Prop}
    (ho : Obj C Cl fs oc w) (h : Q bs (.val (.int (min m (oc.length - p))))) : Fn C (n + 1) (.ref 138) [.inst Cl fs, .int p, .int m] bs Q := by
  refine Fn_def ok (D_limit ok) rfl (by rfl) ?_
  repeat (walk_at "mine")
  refine Ev_attr ok (d := .inst Cl fs) (by rfl) (by rfl) (.own ho.f1 ho.octets rfl) ?_
  refine len_by (by have := ho.size; lia) ?_
  repeat (walk_at "mine")
  exact min_ii h
theorem alike_ok {C : Cx} (ok : C.Ok) {n w : Nat} {Cl : Addr} {fs : List (Str × D)} {oc : List Int} {p o l : Nat} {bs : BS} {Q : BS → R → Prop}
    (ho : Obj C Cl fs oc w) (hl : p + l ≤ oc.length) (hop : o < p) (h : Q bs (.val (.int (alikeF oc p o l 0)))) : Fn C (n + 1) (.ref 152) [.inst Cl fs, .int p, .int o, .int 0, .int l] bs Q := by
  refine Fn_def ok (D_alike ok) rfl (by rfl) ?_
  have hsz := ho.size
  refine Ex_cons (Ex1_assign ?_ (by rfl) (by rfl))
  refine Ev_attr ok (d := .inst Cl fs) (by rfl) (by rfl) (.own ho.f1 ho.octets rfl) ?_
  refine Ex_cons (Ex1_whileS (fun k : Nat => k ≤ l ∧ alikeF oc p o (l - k) k = alikeF oc p o l 0) (fun k => [("known", .val (.int k)), ("octets", .val (.bytes oc)), ("place", .val (.int p)), ("other", .val (.int o)), ("limit", .val (.int l))]) (fun _ => bs) (fun k => l - k)
    ⟨0, ⟨Nat.zero_le _, rfl⟩, SubV.all (by rfl), rfl⟩ fun k ⟨h1, h2⟩ I fin => ?_)
  refine Ts_boolop (TsA_and ?_)
  repeat (walk_at "mine")
  refine And.intro (fun t => ?_) (fun t => ?_)
  · have hk : k < l := by have := of_decide_eq_true t; (clear hl hop; omega)
    refine TsA_and ?_
    repeat (walk_at "mine")
    have g1 : p + k < oc.length := by (clear t; lia)
    have g2 : o + k < oc.length := by (clear hl t; lia)
    refine ⟨rfl, item_by (c := oc[p + k]) (by (clear hl hop; lia)) (by lia) (by rw [show ((p : Int) + (k : Int)).toNat = p + k by lia]; simp [g1]) ?_⟩
    repeat (walk_at "mine")
    refine ⟨rfl, item_by (c := oc[o + k]) (by (clear hop; lia)) (by lia) (by rw [show ((o : Int) + (k : Int)).toNat = o + k by (clear hop; lia)]; simp [g2]) ?_⟩
    refine eq_i ?_
    have step : alikeF oc p o (l - k) k = if oc[p + k]? = oc[o + k]? then alikeF oc p o (l - (k + 1)) (k + 1) else k := by
      rw [show l - k = (l - (k + 1)) + 1 by (clear hl; lia)]; rfl
    refine And.intro (fun t => TsA_and_nil (And.intro (fun _ => ?_) (fun t => nomatch t))) (fun t => And.intro (fun t => nomatch t) (fun _ => ?_))
    · have e := of_decide_eq_true t
      refine Ex_cons (Ex1_aug (by rfl) (by rfl) ?_ (by rfl))
      repeat (walk_at "mine")
      refine fin _ _ ⟨k + 1, by (clear hl; lia), ⟨by assumption, ?_⟩, SubV.all (by rfl), rfl⟩
      rw [← h2, step, if_pos (by simp [g1, g2, e])]
    · have e := of_decide_eq_false t
      repeat (walk_at "mine")
      have : alikeF oc p o l 0 = k := by rw [← h2, step, if_neg (by simp [g1, g2]; exact e)]
      rw [this] at h; exact h
  · have hk : ¬ k < l := by have := of_decide_eq_false t; (clear hl t; lia)
    refine And.intro (fun t => nomatch t) (fun _ => ?_)
    repeat (walk_at "mine")
    have : alikeF oc p o l 0 = k := by rw [← h2, show l - k = 0 by (clear hl t; lia)]; rfl
    rw [this] at h; exact h
theorem D_length {C : Cx} (ok : C.Ok) : DefAt C 145 ["self", "place", "other", "most"] (bodyAt C.K 145) (scAt C.K 145) := by
  refine DefAt.of ok (by rfl) fun fd e vs hl s X => bindsN X fun S => ?_
  cases e
  obtain ⟨a, b, c, d, rfl⟩ := len4 hl
  rfl
theorem D_repeat {C : Cx} (ok : C.Ok) : DefAt C 166 ["self", "place", "distance", "most"] (bodyAt C.K 166) (scAt C.K 166) := by
  refine DefAt.of ok (by rfl) fun fd e vs hl s X => bindsN X fun S => ?_
  cases e
  obtain ⟨a, b, c, d, rfl⟩ := len4 hl
  rfl
theorem length_ok {C : Cx} (ok : C.Ok) {n w : Nat} {Cl : Addr} {fs : List (Str × D)} {oc : List Int} {p o m : Nat} {bs : BS} {Q : BS → R → Prop}
    (ho : Obj C Cl fs oc w) (hp : p ≤ oc.length) (hop : o < p) (h : Q bs (.val (.int (lenN oc p o m)))) : Fn C (n + 2) (.ref 145) [.inst Cl fs, .int p, .int o, .int m] bs Q := by
  refine Fn_def ok (D_length ok) rfl (by rfl) ?_
  refine Ex_cons (Ex1_if (Ts_not (Ts_cmp2 ?_ (by rfl))))
  repeat (walk_at "mine")
  refine And.intro (fun _ => ?_) (fun t => absurd (of_decide_eq_false t) (by (clear t; lia)))
  repeat (walk_at "mine")
  refine And.intro (fun t => ?_) (fun _ => ?_)
  · exact absurd (show (!decide ((o : Int) < (p : Int))) = true from t) (by simp [hop])
  repeat (walk_at "mine")
  refine Ev_meth (n := n + 1) ok (by rfl) (by rfl) ho.m2.1 ho.m2.2 ?_ (Nat.le_refl _) (by rfl) (by rfl) (by decide)
  repeat (walk_at "mine")
  refine Ev_meth (n := n + 1) ok (by rfl) (by rfl) ho.m1.1 ho.m1.2 ?_ (Nat.le_refl _) (by rfl) (by rfl) (by decide)
  repeat (walk_at "mine")
  refine limit_ok ok ho ?_
  refine EvD_nil ?_
  rw [show (min (m : Int) ((oc.length : Int) - (p : Int))) = ((min m (oc.length - p) : Nat) : Int) by lia]
  exact alike_ok ok ho (by lia) hop h
theorem repeat_ok {C : Cx} (ok : C.Ok) {n w : Nat} {Cl : Addr} {fs : List (Str × D)} {oc : List Int} {p d m : Nat} {bs : BS} {Q : BS → R → Prop}
    (ho : Obj C Cl fs oc w) (hp : p ≤ oc.length) (h : Q bs (.val (.int (repN oc w p d m)))) : Fn C (n + 3) (.ref 166) [.inst Cl fs, .int p, .int d, .int m] bs Q := by
  refine Fn_def ok (D_repeat ok) rfl (by rfl) ?_
  have fin0 : (d < 1 ∨ p < d ∨ w < d) → Q bs (.val (.int 0)) := fun c => by
    have : repN oc w p d m = 0 := by unfold repN; rw [if_pos c]
    rw [this] at h; exact h
  refine Ex_cons (Ex1_if (Ts_boolop (TsA_or ?_)))
  repeat (walk_at "mine")
  refine And.intro (fun t => ?_) (fun t1 => TsA_or ?_)
  · refine And.intro (fun _ => ?_) (fun t => nomatch t)
    repeat (walk_at "mine")
    exact fin0 (.inl (by have := of_decide_eq_true t; (clear t; lia)))
  repeat (walk_at "mine")
  refine And.intro (fun t => ?_) (fun t2 => TsA_or ?_)
  · refine And.intro (fun _ => ?_) (fun t => nomatch t)
    repeat (walk_at "mine")
    exact fin0 (.inr (.inl (by have := of_decide_eq_true t; (clear hp t; lia))))
  repeat (walk_at "mine")
  refine Ev_attr ok (d := .inst Cl fs) (by rfl) (by rfl) (.own ho.f2 ho.window rfl) ?_
  repeat (walk_at "mine")
  refine And.intro (fun t => ?_) (fun t3 => TsA_or_nil ?_)
  · refine And.intro (fun _ => ?_) (fun t => nomatch t)
    repeat (walk_at "mine")
    exact fin0 (.inr (.inr (by have := of_decide_eq_true t; (clear t; lia))))
  refine And.intro (fun t => nomatch t) (fun _ => ?_)
  have e1 := of_decide_eq_false t1
  have e2 := of_decide_eq_false t2
  have e3 := of_decide_eq_false t3
  repeat (walk_at "mine")
  refine Ev_meth (n := n + 2) ok (by rfl) (by rfl) ho.m3.1 ho.m3.2 ?_ (Nat.le_refl _) (by rfl) (by rfl) (by decide)
  repeat (walk_at "mine")
  rw [show ((p : Int) - (d : Int)) = ((p - d : Nat) : Int) by (clear hp; lia)]
  refine length_ok ok ho hp (by (clear hp e3; omega)) ?_
  have : repN oc w p d m = lenN oc p (p - d) m := by unfold repN; rw [if_neg (by (clear hp; omega))]
  rw [this] at h; exact h
theorem D_minit {C : Cx} (ok : C.Ok) : DefAt C 110 ["self", "octets", "least", "window", "chain"] (bodyAt C.K 110) (scAt C.K 110) := by
  refine DefAt.of ok (by rfl) fun fd e vs hl s X => bindsN X fun S => ?_
  cases e
  obtain ⟨a, b, c, d, f, rfl⟩ := len5 hl
  rfl
theorem D_pinit {C : Cx} (ok : C.Ok) : DefAt C 68 ["self", "octets", "size"] (bodyAt C.K 68) (scAt C.K 68) := by
  refine DefAt.of ok (by rfl) fun fd e vs hl s X => bindsN X fun S => ?_
  cases e
  obtain ⟨a, b, c, rfl⟩ := len3 hl
  rfl
theorem D_finit {C : Cx} (ok : C.Ok) : DefAt C 202 ["self", "octets", "least", "window", "chain"] (bodyAt C.K 202) (scAt C.K 202) := by
  refine DefAt.of ok (by rfl) fun fd e vs hl s X => bindsN X fun S => ?_
  cases e
  obtain ⟨a, b, c, d, f, rfl⟩ := len5 hl
  rfl
theorem D_tinit {C : Cx} (ok : C.Ok) : DefAt C 243 ["self", "octets", "least", "window", "chain"] (bodyAt C.K 243) (scAt C.K 243) := by
  refine DefAt.of ok (by rfl) fun fd e vs hl s X => bindsN X fun S => ?_
  cases e
  obtain ⟨a, b, c, d, f, rfl⟩ := len5 hl
  rfl
theorem D_linit {C : Cx} (ok : C.Ok) : DefAt C 290 ["self", "octets", "window", "chain"] (bodyAt C.K 290) (scAt C.K 290) := by
  refine DefAt.of ok (by rfl) fun fd e vs hl s X => bindsN X fun S => ?_
  cases e
  obtain ⟨a, b, c, d, rfl⟩ := len4 hl
  rfl
noncomputable def stdFs (oc : List Int) (l w c : Int) : List (Str × D) := [("octets", .bytes oc), ("least", .int l), ("window", .int w), ("chain", .int c), ("ahead", .int 0)]
/-- the class has the five names of a Matcher to store under -/
structure StdCls (C : Cx) (Cl : Addr) : Prop where
  s1 : StoreOk C.K Cl "octets"
  s2 : StoreOk C.K Cl "least"
  s3 : StoreOk C.K Cl "window"
  s4 : StoreOk C.K Cl "chain"
  s5 : StoreOk C.K Cl "ahead"
theorem minit_ok {C : Cx} (ok : C.Ok) {n : Nat} {Cl : Addr} {oc : List Int} {l w c : Int} {Q : BS → R → Prop}
    (hc : StdCls C Cl) (h1 : 1 ≤ l) (h2 : 1 ≤ w) (h3 : 1 ≤ c) (h : Q (some (.flds (stdFs oc l w c))) (.val .none)) : Fn C (n + 1) (.ref 110) [.self Cl, .bytes oc, .int l, .int w, .int c] (some (.flds [])) Q := by
  refine Fn_def ok (D_minit ok) rfl (by rfl) ?_
  repeat (walk_at "mine")
  refine And.intro (fun t => absurd (of_decide_eq_true t) (by (clear t; lia))) (fun _ => ?_)
  repeat (walk_at "mine")
  refine And.intro (fun t => absurd (of_decide_eq_true t) (by (clear t; lia))) (fun _ => ?_)
  repeat (walk_at "mine")
  refine And.intro (fun t => absurd (of_decide_eq_true t) (by (clear t; lia))) (fun _ => ?_)
  refine Ex_nil ?_
  refine Ex_cons (Ex1_setattr ok (Cl := Cl) (by rfl) (by rfl) hc.s1 (by rfl) ?_)
  refine Ev_bytes ok (by rfl) (by rfl) (by rfl) (Ev_name (by rfl) (by rfl) (bytes_b ⟨_, rfl, by rfl, by decide, ?_⟩))
  refine Ex_cons (Ex1_setattr ok (Cl := Cl) (by rfl) (by rfl) hc.s2 (by rfl) (Ev_name (by rfl) (by rfl) ⟨_, rfl, by rfl, by simp, ?_⟩))
  refine Ex_cons (Ex1_setattr ok (Cl := Cl) (by rfl) (by rfl) hc.s3 (by rfl) (Ev_name (by rfl) (by rfl) ⟨_, rfl, by rfl, by simp, ?_⟩))
  refine Ex_cons (Ex1_setattr ok (Cl := Cl) (by rfl) (by rfl) hc.s4 (by rfl) (Ev_name (by rfl) (by rfl) ⟨_, rfl, by rfl, by simp, ?_⟩))
  refine Ex_cons (Ex1_setattr ok (Cl := Cl) (by rfl) (by rfl) hc.s5 (by rfl) (Ev_int ⟨_, rfl, by rfl, by simp, ?_⟩))
  exact Ex_nil h
theorem prow_ok {C : Cx} (ok : C.Ok) {n : Nat} {oc : List Int} {l : Int} {bs : BS} {Q : BS → R → Prop}
    (h1 : 1 ≤ l) (hz : oc.length ≤ 1000) (h : ∀ fs, Q bs (.val (.inst 92 fs))) : Fn C (n + 2) (.ref 92) [.bytes oc, .int l] bs Q := by
  refine Fn_class (fI := 68) ok (by rfl) (by rfl) (by rfl) (by rfl) fun β => ?_
  refine Fn_def (C := C.at β) (ok.at β) (D_pinit (C := C.at β) (ok.at β)) rfl (by rfl) ?_
  have ok' := ok.at β
  repeat (walk_at "mine")
  refine And.intro (fun t => absurd (of_decide_eq_true t) (by (clear t; lia))) (fun _ => ?_)
  refine Ex_nil ?_
  refine Ex_cons (Ex1_setattr ok' (Cl := 92) (by rfl) (by rfl) ⟨by rfl, by rfl, by rfl, by rfl⟩ (by rfl) (Ev_name (by rfl) (by rfl) ⟨_, rfl, by rfl, by simp, ?_⟩))
  refine Ex_cons (Ex1_setattr ok' (Cl := 92) (by rfl) (by rfl) ⟨by rfl, by rfl, by rfl, by rfl⟩ (by rfl) (Ev_name (by rfl) (by rfl) ⟨_, rfl, by rfl, by simp, ?_⟩))
  refine Ex_cons (Ex1_setattr ok' (Cl := 92) (by rfl) (by rfl) ⟨by rfl, by rfl, by rfl, by rfl⟩ (by rfl) (Ev_dict0 ⟨_, rfl, by rfl, by simp, ?_⟩))
  refine Ex_cons (Ex1_setattr ok' (Cl := 92) (by rfl) (by rfl) ⟨by rfl, by rfl, by rfl, by rfl⟩ (by rfl) (Ev_bin (Ev_list (EvD_cons (Ev_top ok' (by rfl) (by rfl) (by rfl) (EvD_nil ⟨by decide, ?_⟩)) (by rfl)))))
  refine Ev_len ok' (by rfl) (by rfl) (by rfl) (Ev_name (by rfl) (by rfl) (len_by (by lia) ?_))
  refine mul_l (d1 := [.int (-1)]) (by rfl) (by lia) (by simp; lia) ?_
  refine ⟨_, rfl, by rfl, by simp, ?_⟩
  exact Ex_nil ⟨rfl, _, rfl, h _⟩
end
section
set_option maxRecDepth 100000
set_option linter.unusedVariables false
theorem obj_of {C : Cx} {Cl : Addr} (hCl : Cl = 226 ∨ Cl = 274 ∨ Cl = 307) {oc : List Int} {l c : Int} {w : Nat} {more : List (Str × D)} (hz : oc.length ≤ 1000)
    (h1 : more.lookup ("limit" : Str) = none) (h2 : more.lookup ("alike" : Str) = none) (h3 : more.lookup ("length" : Str) = none) (h4 : more.lookup ("repeat" : Str) = none) : Obj C Cl (stdFs oc l w c ++ more) oc w := by
  rcases hCl with rfl | rfl | rfl
  all_goals exact ⟨rfl, rfl, ⟨by rfl, by rfl, none, by rfl, by rfl⟩, ⟨by rfl, by rfl, none, by rfl, by rfl⟩, ⟨⟨by rfl, by rfl, by rfl, by rfl⟩, h1⟩, ⟨⟨by rfl, by rfl, by rfl, by rfl⟩, h2⟩, ⟨⟨by rfl, by rfl, by rfl, by rfl⟩, h3⟩, ⟨⟨by rfl, by rfl, by rfl, by rfl⟩, h4⟩, hz⟩
theorem finder_ok {C : Cx} (ok : C.Ok) {n : Nat} {oc : List Int} {l c : Int} {w : Nat} {bs : BS} {Q : BS → R → Prop}
    (h1 : 1 ≤ l) (h2 : 1 ≤ w) (h3 : 1 ≤ c) (hz : oc.length ≤ 1000) (h : ∀ fs, Obj C 226 fs oc w → Q bs (.val (.inst 226 fs))) : Fn C (n + 4) (.ref 226) [.bytes oc, .int l, .int w, .int c] bs Q := by
  refine Fn_class (fI := 202) ok (by rfl) (by rfl) (by rfl) (by rfl) fun β => ?_
  refine Fn_def (C := C.at β) (ok.at β) (D_finit (C := C.at β) (ok.at β)) rfl (by rfl) ?_
  have ok' := ok.at β
  have ho := fun (more : List (Str × D)) => obj_of (C := C) (more := more) (l := l) (c := c) (w := w) (.inl rfl) hz
  refine Ex_cons (Ex1_expr (by rfl) ?_)
  refine Ev_clsfn (n := n + 1) (Cl := 183) (f := 110) ok' (mg_of ok' (by rfl)) (by rfl) (by rfl) ⟨by rfl, ⟨.type "type", by rfl, by rfl⟩, by rfl⟩ ?_ (by show n + 1 ≤ n + 2; lia) (by rfl) (by rfl) (by decide)
  repeat (walk_at "mine")
  refine minit_ok ok' ⟨⟨by rfl, by rfl, by rfl, by rfl⟩, ⟨by rfl, by rfl, by rfl, by rfl⟩, ⟨by rfl, by rfl, by rfl, by rfl⟩, ⟨by rfl, by rfl, by rfl, by rfl⟩, ⟨by rfl, by rfl, by rfl, by rfl⟩⟩ h1 (by lia) h3 ?_
  refine And.intro rfl ?_
  refine Ex_cons (Ex1_setattr ok' (Cl := 226) (by rfl) (by rfl) ⟨by rfl, by rfl, by rfl, by rfl⟩ (by rfl) ?_)
  refine Ev_fun (f := 92) (n := n + 2) ok' (by rfl) (by rfl) (by rfl) (by rfl) (by show n + 2 ≤ n + 2; lia) (by rfl) ?_
  refine EvD_cons (Ev_attr ok' (d := .self 226) (by rfl) (by rfl) (.sown rfl ⟨by rfl, by rfl, none, by rfl, by rfl⟩ (by rfl) (by rfl)) ?_) (by rfl)
  repeat (walk_at "mine")
  refine prow_ok ok' h1 hz fun fs => ?_
  refine ⟨_, rfl, by rfl, by simp [stdFs], ?_⟩
  exact Ex_nil ⟨rfl, _, rfl, h _ (ho [("row", .any)] (by rfl) (by rfl) (by rfl) (by rfl))⟩
theorem tree_ok {C : Cx} (ok : C.Ok) {n : Nat} {oc : List Int} {l c : Int} {w : Nat} {bs : BS} {Q : BS → R → Prop}
    (h1 : 1 ≤ l) (h2 : 1 ≤ w) (h3 : 1 ≤ c) (hz : oc.length ≤ 1000) (h : ∀ fs, Obj C 274 fs oc w → Q bs (.val (.inst 274 fs))) : Fn C (n + 4) (.ref 274) [.bytes oc, .int l, .int w, .int c] bs Q := by
  refine Fn_class (fI := 243) ok (by rfl) (by rfl) (by rfl) (by rfl) fun β => ?_
  refine Fn_def (C := C.at β) (ok.at β) (D_tinit (C := C.at β) (ok.at β)) rfl (by rfl) ?_
  have ok' := ok.at β
  have ho := fun (more : List (Str × D)) => obj_of (C := C) (more := more) (l := l) (c := c) (w := w) (.inr (.inl rfl)) hz
  refine Ex_cons (Ex1_expr (by rfl) ?_)
  refine Ev_clsfn (n := n + 1) (Cl := 183) (f := 110) ok' (mg_of ok' (by rfl)) (by rfl) (by rfl) ⟨by rfl, ⟨.type "type", by rfl, by rfl⟩, by rfl⟩ ?_ (by show n + 1 ≤ n + 2; lia) (by rfl) (by rfl) (by decide)
  repeat (walk_at "mine")
  refine minit_ok ok' ⟨⟨by rfl, by rfl, by rfl, by rfl⟩, ⟨by rfl, by rfl, by rfl, by rfl⟩, ⟨by rfl, by rfl, by rfl, by rfl⟩, ⟨by rfl, by rfl, by rfl, by rfl⟩, ⟨by rfl, by rfl, by rfl, by rfl⟩⟩ h1 (by lia) h3 ?_
  refine And.intro rfl ?_
  refine Ex_cons (Ex1_setattr ok' (Cl := 274) (by rfl) (by rfl) ⟨by rfl, by rfl, by rfl, by rfl⟩ (by rfl) ?_)
  refine Ev_fun (f := 92) (n := n + 2) ok' (by rfl) (by rfl) (by rfl) (by rfl) (by show n + 2 ≤ n + 2; lia) (by rfl) ?_
  refine EvD_cons (Ev_attr ok' (d := .self 274) (by rfl) (by rfl) (.sown rfl ⟨by rfl, by rfl, none, by rfl, by rfl⟩ (by rfl) (by rfl)) ?_) (by rfl)
  repeat (walk_at "mine")
  refine prow_ok ok' h1 hz fun fs => ?_
  refine ⟨_, rfl, by rfl, by simp [stdFs], ?_⟩
  refine Ex_cons (Ex1_setattr ok' (Cl := 274) (by rfl) (by rfl) ⟨by rfl, by rfl, by rfl, by rfl⟩ (by rfl) (Ev_dict0 ⟨_, rfl, by rfl, by simp [stdFs], ?_⟩))
  refine Ex_cons (Ex1_setattr ok' (Cl := 274) (by rfl) (by rfl) ⟨by rfl, by rfl, by rfl, by rfl⟩ (by rfl) (Ev_bin (Ev_list (EvD_cons (Ev_top ok' (by rfl) (by rfl) (by rfl) (EvD_nil ⟨by decide, ?_⟩)) (by rfl)))))
  refine Ev_len ok' (by rfl) (by rfl) (by rfl) (Ev_attr ok' (d := .self 274) (by rfl) (by rfl) (.sown rfl ⟨by rfl, by rfl, none, by rfl, by rfl⟩ (by rfl) (by rfl)) (len_by (by lia) ?_))
  refine mul_l (d1 := [.int (-1)]) (by rfl) (by lia) (by simp; lia) ?_
  refine ⟨_, rfl, by rfl, by simp [stdFs], ?_⟩
  refine Ex_cons (Ex1_setattr ok' (Cl := 274) (by rfl) (by rfl) ⟨by rfl, by rfl, by rfl, by rfl⟩ (by rfl) (Ev_bin (Ev_list (EvD_cons (Ev_top ok' (by rfl) (by rfl) (by rfl) (EvD_nil ⟨by decide, ?_⟩)) (by rfl)))))
  refine Ev_len ok' (by rfl) (by rfl) (by rfl) (Ev_attr ok' (d := .self 274) (by rfl) (by rfl) (.sown rfl ⟨by rfl, by rfl, none, by rfl, by rfl⟩ (by rfl) (by rfl)) (len_by (by lia) ?_))
  refine mul_l (d1 := [.int (-1)]) (by rfl) (by lia) (by simp; lia) ?_
  refine ⟨_, rfl, by rfl, by simp [stdFs], ?_⟩
  exact Ex_nil ⟨rfl, _, rfl, h _ (ho [("row", .any), ("roots", .any), ("smaller", .any), ("greater", .any)] (by rfl) (by rfl) (by rfl) (by rfl))⟩
end
section
set_option maxRecDepth 100000
set_option linter.unusedVariables false
theorem layered_ok {C : Cx} (ok : C.Ok) {n : Nat} {oc : List Int} {c : Int} {w : Nat} {bs : BS} {Q : BS → R → Prop}
    (h2 : 1 ≤ w) (h3 : 1 ≤ c) (hz : oc.length ≤ 1000) (h : ∀ fs, Obj C 307 fs oc w → Q bs (.val (.inst 307 fs))) : Fn C (n + 6) (.ref 307) [.bytes oc, .int w, .int c] bs Q := by
  refine Fn_class (fI := 290) ok (by rfl) (by rfl) (by rfl) (by rfl) fun β => ?_
  refine Fn_def (C := C.at β) (ok.at β) (D_linit (C := C.at β) (ok.at β)) rfl (by rfl) ?_
  have ok' := ok.at β
  have ho := fun (more : List (Str × D)) => obj_of (C := C) (more := more) (l := 2) (c := c) (w := w) (.inr (.inr rfl)) hz
  have hL : ∀ φ : Store, (∀ b o, C.H.get? b = some o → φ b = some o) → Rep φ β (.ref 284) (.tuple [.int 2, .int 3]) := fun φ hφ =>
    .tuple (vs := [.int 2 568, .int 3 569]) (n := 0) (hφ _ _ (ok.kin 284 _ (by rfl))) (.cons (.int _ _) (.cons (.int _ _) .nil))
  obtain ⟨tt, htt⟩ : ∃ t, findIn (C.K) (.ref 307) ("TREE" : Str) = some (some (.int 4 t)) := ⟨_, by rfl⟩
  refine Ex_cons (Ex1_expr (by rfl) ?_)
  refine Ev_clsfn (n := n + 1) (Cl := 183) (f := 110) ok' (mg_of ok' (by rfl)) (by rfl) (by rfl) ⟨by rfl, ⟨.type "type", by rfl, by rfl⟩, by rfl⟩ ?_ (by show n + 1 ≤ n + 4; lia) (by rfl) (by rfl) (by decide)
  refine EvD_cons (Ev_name (by rfl) (by rfl) ?_) (by rfl)
  refine EvD_cons (Ev_name (by rfl) (by rfl) ?_) (by rfl)
  refine EvD_cons (Ev_sub (Ev_attr ok' (d := .self 307) (d' := .tuple [.int 2, .int 3]) (by rfl) (by rfl) (.scls rfl (a := .ref 284) ⟨by rfl, by rfl, by rfl, by rfl, by rfl, by rfl⟩ (by rfl) hL) (Ev_int ⟨by rfl, item_t (by decide) (by decide) (by rfl) ?_⟩)) (by rfl)) (by rfl)
  refine EvD_cons (Ev_name (by rfl) (by rfl) ?_) (by rfl)
  refine EvD_cons (Ev_name (by rfl) (by rfl) ?_) (by rfl)
  refine EvD_nil ?_
  refine minit_ok ok' ⟨⟨by rfl, by rfl, by rfl, by rfl⟩, ⟨by rfl, by rfl, by rfl, by rfl⟩, ⟨by rfl, by rfl, by rfl, by rfl⟩, ⟨by rfl, by rfl, by rfl, by rfl⟩, ⟨by rfl, by rfl, by rfl, by rfl⟩⟩ (by decide) (by lia) h3 ?_
  refine And.intro rfl ?_
  refine Ex_cons (Ex1_setattr ok' (Cl := 307) (by rfl) (by rfl) ⟨by rfl, by rfl, by rfl, by rfl⟩ (by rfl) ?_)
  refine Ev_comp (fun rest acc b => b = some (.flds (stdFs oc 2 w c)) ∧ (∀ d ∈ rest, ∃ i : Int, d = .int i ∧ 1 ≤ i) ∧ acc.length + rest.length ≤ 2) ?_ ⟨?_, by rfl, by rfl, by rfl, by rfl⟩ (by rfl)
  · refine Ev_attr ok' (d := .self 307) (d' := .tuple [.int 2, .int 3]) (by rfl) (by rfl) (.scls rfl (a := .ref 284) ⟨by rfl, by rfl, by rfl, by rfl, by rfl, by rfl⟩ (by rfl) hL) ?_
    refine ⟨_, ItOk_tuple, ⟨rfl, ?_, by decide⟩, fun acc b ⟨e, _, _⟩ => ?_⟩
    · intro d hd
      simp only [List.mem_cons, List.not_mem_nil, or_false] at hd
      rcases hd with rfl | rfl
      · exact ⟨2, rfl, by decide⟩
      · exact ⟨3, rfl, by decide⟩
    subst e
    refine ⟨_, rfl, by rfl, by simp [stdFs], ?_⟩
    refine Ex_cons (Ex1_setattr ok' (Cl := 307) (by rfl) (by rfl) ⟨by rfl, by rfl, by rfl, by rfl⟩ (by rfl) ?_)
    refine Ev_fun (f := 274) (n := n + 4) ok' (by rfl) (by rfl) (by rfl) (by rfl) (by show n + 4 ≤ n + 4; lia) (by rfl) ?_
    refine EvD_cons (Ev_attr ok' (d := .self 307) (by rfl) (by rfl) (.sown rfl ⟨by rfl, by rfl, none, by rfl, by rfl⟩ (by rfl) (by rfl)) ?_) (by rfl)
    refine EvD_cons (Ev_attr ok' (d := .self 307) (d' := .int 4) (by rfl) (by rfl) (.scls rfl (a := .int 4 tt) ⟨by rfl, by rfl, htt, by rfl, by rfl, by rfl⟩ (by rfl) (fun φ _ => .int _ _)) ?_) (by rfl)
    refine EvD_cons (Ev_name (by rfl) (by rfl) ?_) (by rfl)
    refine EvD_cons (Ev_name (by rfl) (by rfl) ?_) (by rfl)
    refine EvD_nil ?_
    refine tree_ok ok' (by decide) h2 h3 hz fun fs _ => ?_
    refine ⟨_, rfl, by rfl, by simp [stdFs], ?_⟩
    exact Ex_nil ⟨rfl, _, rfl, h _ (ho [("rows", .any), ("tree", .any)] (by rfl) (by rfl) (by rfl) (by rfl))⟩
  · intro x rest acc b ⟨hb, hi, hlen⟩
    obtain ⟨i, rfl, hi1⟩ := hi x List.mem_cons_self
    subst hb
    refine ⟨_, rfl, TsL_nil ?_⟩
    refine And.intro (fun _ => ?_) (fun t => nomatch t)
    refine Ev_fun (f := 92) (n := n + 2) ok' (by rfl) (by rfl) (by rfl) (by rfl) (by show n + 2 ≤ n + 4; lia) (by rfl) ?_
    refine EvD_cons (Ev_attr ok' (d := .self 307) (by rfl) (by rfl) (.sown rfl ⟨by rfl, by rfl, none, by rfl, by rfl⟩ (by rfl) (by rfl)) ?_) (by rfl)
    refine EvD_cons (Ev_name (by rfl) (by rfl) ?_) (by rfl)
    refine EvD_nil ?_
    refine prow_ok ok' hi1 hz fun fs => ?_
    simp only [List.length_cons] at hlen
    refine ⟨by lia, rfl, fun d hd => hi d (List.mem_cons_of_mem _ hd), by simp; lia⟩
end
section
set_option maxRecDepth 100000
set_option linter.unusedVariables false
theorem D_box {C : Cx} (ok : C.Ok) : DefAt C 316 ["script"] (bodyAt C.K 316) (scAt C.K 316) := by
  refine DefAt.of ok (by rfl) fun fd e vs hl s X => bindsN X fun S => ?_
  cases e
  obtain ⟨a, rfl⟩ := len1 hl
  rfl
theorem D_take {C : Cx} (ok : C.Ok) : DefAt C 323 ["box", "many"] (bodyAt C.K 323) (scAt C.K 323) := by
  refine DefAt.of ok (by rfl) fun fd e vs hl s X => bindsN X fun S => ?_
  cases e
  obtain ⟨a, b, rfl⟩ := len2 hl
  rfl
theorem box_ok {C : Cx} (ok : C.Ok) {n : Nat} {ns : List Int} {bs : BS} {Q : BS → R → Prop}
    (hz : ns.length ≤ 1000) (h : ∀ d s : Int, Q bs (.own [.int d, .int s])) : Fn C (n + 1) (.ref 316) [.list (ns.map D.int)] bs Q := by
  refine Fn_def ok (D_box ok) rfl (by rfl) ?_
  refine Ex_cons (Ex1_assign_tup (xs := ["digits", "state"]) (by rfl) (by first | (left; rfl) | (right; rfl)) (by rfl) (by decide) ?_)
  repeat (walk_at "mine")
  refine ⟨_, rfl, by decide, ?_⟩
  refine Ex_cons (Ex1_forS (α := Int × Int) (fun xs _ => ∃ ms : List Int, xs = ms.map D.int) (fun a => [("digits", .val (.int a.1)), ("state", .val (.int a.2))]) (fun _ => bs) ?_ ?_ ?_ (by rfl) (by rfl))
  · repeat (walk_at "mine")
    refine EvP_none (EvP_some (Ev_int ⟨by simp; lia, ?_⟩))
    refine ⟨_, (0, 1), ItOk_list, ⟨cut none (some 30) ns, ?_⟩, SubV.all (by rfl), rfl⟩
    simp [cut, List.map_take]
  · intro x rest ⟨d, s⟩ ⟨ms, e⟩ I fin
    cases ms with
    | nil => cases e
    | cons m ms =>
      cases e
      refine ⟨_, rfl, ?_⟩
      repeat (walk_at "mine")
      refine pow_i (by decide) (by decide) ?_
      refine ge_i ?_
      refine And.intro (fun _ => ?_) (fun _ => ?_)
      · refine Ex_cons (Ex1_assign ?_ (by rfl) (by rfl))
        repeat (walk_at "mine")
        refine pow_i (by decide) (by decide) ?_
        refine sub_i ?_
        repeat (walk_at "mine")
        exact fin _ _ ⟨(d + m - (10 : Int) ^ ((18 : Int).toNat), s), ⟨ms, rfl⟩, SubV.all (by rfl), rfl⟩
      · refine Ex_cons (Ex1_assign ?_ (by rfl) (by rfl))
        repeat (walk_at "mine")
        refine mul_i (by decide) ?_
        repeat (walk_at "mine")
        refine mod_i (by decide) ?_
        repeat (walk_at "mine")
        exact fin _ _ ⟨(d, 1 + (s * 1009 + m).fmod 2147483629), ⟨ms, rfl⟩, SubV.all (by rfl), rfl⟩
  · intro ⟨d, s⟩ _
    refine Ex_nil ?_
    refine Ex_cons (Ex1_ret (Ev_list ?_))
    repeat (walk_at "mine")
    exact ⟨by simp, h d s⟩
theorem fmod_in {a m : Int} (hm : 1 ≤ m) : 0 ≤ a.fmod m ∧ a.fmod m < m := ⟨Int.fmod_nonneg_of_pos _ (by assumption), Int.fmod_lt_of_pos _ (by assumption)⟩
theorem take_ok {C : Cx} (ok : C.Ok) {n : Nat} {a b m : Int} {Q : BS → R → Prop}
    (hm : 1 ≤ m) (hm2 : m < 1000000) (h : ∀ a' b' t : Int, 0 ≤ t → t < m → Q (some (.two a' b')) (.val (.int t))) : Fn C (n + 1) (.ref 323) [.box, .int m] (some (.two a b)) Q := by
  refine Fn_def ok (D_take ok) rfl (by rfl) ?_
  refine Ex_cons (Ex1_if (Ts_cmp (Ev_box (by rfl) (by rfl) rfl (.inl rfl) (Ev_int (gt_i ?_))) (by rfl)))
  refine And.intro (fun _ => ?_) (fun _ => ?_)
  · refine Ex_cons (Ex1_assign (Ev_bin (Ev_box (by rfl) (by rfl) rfl (.inl rfl) (Ev_name (by rfl) (by rfl) (mod_i (by lia) ?_)))) (by rfl) (by rfl))
    refine Ex_cons (Ex1_box (by rfl) (by rfl) (.inl rfl) (by rfl) (Ev_bin (Ev_box (by rfl) (by rfl) rfl (.inl rfl) (Ev_name (by rfl) (by rfl) (div_i (by lia) (by omega) ⟨_, _, rfl, ?_⟩)))))
    repeat (walk_at "mine")
    obtain ⟨h1, h2⟩ := fmod_in (a := a) hm
    exact h _ _ _ h1 h2
  · refine Ex_nil ?_
    refine Ex_cons (Ex1_box (by rfl) (by rfl) (.inr rfl) (by rfl) (Ev_bin (Ev_bin (Ev_box (by rfl) (by rfl) rfl (.inr rfl) (Ev_int (mul_i (by decide) (Ev_int (mod_i (by decide) ⟨_, _, rfl, ?_⟩))))))))
    refine Ex_cons (Ex1_ret (Ev_bin (Ev_bin (Ev_box (by rfl) (by rfl) rfl (.inr rfl) (Ev_int (div_i (by decide) (by decide) (Ev_name (by rfl) (by rfl) (mod_i (by lia) ?_))))))))
    obtain ⟨h1, h2⟩ := fmod_in (a := Int.fdiv (Int.fmod (b * 48271) 2147483647) 1024) hm
    exact h _ _ _ h1 h2
end
section
set_option maxRecDepth 100000
set_option linter.unusedVariables false
theorem D_piece {C : Cx} (ok : C.Ok) : DefAt C 328 ["box", "size"] (bodyAt C.K 328) (scAt C.K 328) := by
  refine DefAt.of ok (by rfl) fun fd e vs hl s X => bindsN X fun S => ?_
  cases e
  obtain ⟨a, b, rfl⟩ := len2 hl
  rfl
theorem piece_ok {C : Cx} (ok : C.Ok) {n : Nat} {a b m : Int} {Q : BS → R → Prop}
    (hm : 0 ≤ m) (hm2 : m < 1000) (h : ∀ (a' b' : Int) (ls : List Int), ls.length = m.toNat → (∀ c ∈ ls, 97 ≤ c ∧ c ≤ 99) → Q (some (.two a' b')) (.own (ls.map D.int))) : Fn C (n + 2) (.ref 328) [.box, .int m] (some (.two a b)) Q := by
  refine Fn_def ok (D_piece ok) rfl (by rfl) ?_
  refine Ex_cons (Ex1_assign ?_ (by rfl) (by rfl))
  refine Ev_bin (Ev_int ?_)
  refine Ev_fun (f := 323) (n := n + 1) ok (by rfl) (by rfl) (by rfl) (by rfl) (Nat.le_refl _) (by rfl) ?_
  repeat (walk_at "mine")
  refine take_ok ok (by decide) (by decide) fun a1 b1 t h0 h1 => ?_
  refine add_i ?_
  refine Ex_cons (Ex1_ret ?_)
  refine Ev_comp (fun rest acc bb => ∃ (ls : List Int) (a' b' : Int), acc = ls.map D.int ∧ (∀ c ∈ ls, 97 ≤ c ∧ c ≤ 99) ∧ ls.length + rest.length = m.toNat ∧ bb = some (.two a' b')) ?_ ⟨?_, by rfl, by rfl, by rfl, by rfl⟩ (by rfl)
  · repeat (walk_at "mine")
    refine range_1 ⟨_, ItOk_up (by decide) (by lia), ⟨[], a1, b1, rfl, (fun _ h => nomatch h), by simp [upto_length], rfl⟩, fun acc bb ⟨ls, a', b', e1, e2, e3, e4⟩ => ?_⟩
    subst e1 e4
    exact h a' b' ls (by simpa using e3) e2
  · intro x rest acc bb ⟨ls, a', b', e1, e2, e3, e4⟩
    subst e1 e4
    refine ⟨_, rfl, TsL_nil ?_⟩
    refine And.intro (fun _ => ?_) (fun t => nomatch t)
    refine Ev_bin (Ev_int ?_)
    refine Ev_fun (f := 323) (n := n + 1) ok (by rfl) (by rfl) (by rfl) (by rfl) (Nat.le_refl _) (by rfl) ?_
    repeat (walk_at "mine")
    refine take_ok ok (by lia) (by lia) fun a2 b2 u g0 g1 => ?_
    refine add_i ?_
    simp only [List.length_cons] at e3
    refine ⟨by simp; lia, ls ++ [97 + u], a2, b2, by simp, fun c hc => ?_, by simp; lia, rfl⟩
    rcases List.mem_append.mp hc with hc | hc
    · exact e2 c hc
    · rw [List.mem_singleton.mp hc]; lia
end
section
set_option maxRecDepth 100000
set_option maxHeartbeats 8000000
set_option linter.unusedVariables false
theorem D_text {C : Cx} (ok : C.Ok) : DefAt C 335 ["box", "most"] (bodyAt C.K 335) (scAt C.K 335) := by
  refine DefAt.of ok (by rfl) fun fd e vs hl s X => bindsN X fun S => ?_
  cases e
  obtain ⟨a, b, rfl⟩ := len2 hl
  rfl
theorem text_ok {C : Cx} (ok : C.Ok) {n : Nat} {a b m : Int} {Q : BS → R → Prop}
    (hm : 2 ≤ m) (hm2 : m < 50) (h : ∀ (a' b' : Int) (ls : List Int), 2 ≤ ls.length → (ls.length : Int) ≤ m → Lets ls → Q (some (.two a' b')) (.val (.bytes ls))) : Fn C (n + 3) (.ref 335) [.box, .int m] (some (.two a b)) Q := by
  refine Fn_def ok (D_text ok) rfl (by rfl) ?_
  refine Ex_cons (Ex1_assign_tup (xs := ["way", "size", "text"]) (by rfl) (by first | (left; rfl) | (right; rfl)) (by rfl) (by decide) ?_)
  refine EvL_cons ?_ (by rfl)
  refine Ev_fun (f := 323) (n := n + 1) ok (by rfl) (by rfl) (by rfl) (by rfl) (Nat.le_succ _) (by rfl) ?_
  repeat (walk_at "mine")
  refine take_ok ok (by decide) (by decide) fun a1 b1 way w0 w1 => ?_
  refine EvL_cons (Ev_bin (Ev_int ?_)) (by rfl)
  refine Ev_fun (f := 323) (n := n + 1) ok (by rfl) (by rfl) (by rfl) (by rfl) (Nat.le_succ _) (by rfl) ?_
  repeat (walk_at "mine")
  refine take_ok ok (by lia) (by lia) fun a2 b2 sz z0 z1 => ?_
  refine add_i ?_
  refine EvL_cons (Ev_list (EvD_nil ⟨by decide, ?_⟩)) (by rfl)
  refine EvL_nil ⟨_, rfl, by simp, ?_⟩
  refine Ex_freeze "text" (by rfl) ?_
  -- the text, step by step
  refine Ex_cut (α := List Int × Int × Int) (fun s => Lets s.1 ∧ s.1.length ≤ 1000 ∧ (way = 0 → 2 + sz ≤ s.1.length)) (fun s => [("text", .val (.list (s.1.map D.int))), ("size", .val (.int (2 + sz))), ("way", .val (.int way)), ("box", .val .box)]) (fun s => some (.two s.2.1 s.2.2)) ?_ fun ⟨ls, a3, b3⟩ ⟨p1, p2, p3⟩ => ?_
  · intro I fin
    repeat (walk_at "mine")
    refine And.intro (fun t => ?_) (fun t => ?_)
    · refine Ex_cons (Ex1_assign ?_ (by rfl) (by rfl))
      refine Ev_bin ?_
      refine Ev_fun (f := 328) (n := n + 2) ok (by rfl) (by rfl) (by rfl) (by rfl) (Nat.le_refl _) (by rfl) ?_
      refine EvD_cons (Ev_name (by rfl) (by rfl) ?_) (by rfl)
      refine EvD_cons (Ev_bin (Ev_int ?_)) (by rfl)
      refine Ev_fun (f := 323) (n := n + 1) ok (by rfl) (by rfl) (by rfl) (by rfl) (Nat.le_succ _) (by rfl) ?_
      repeat (walk_at "mine")
      refine take_ok ok (by decide) (by decide) fun a3 b3 u u0 u1 => ?_
      refine add_i ?_
      refine EvD_nil ?_
      refine piece_ok ok (by lia) (by lia) fun a4 b4 ls l1 l2 => ?_
      refine Ev_name (by rfl) (by rfl) ?_
      refine mul_l (d1 := ls.map D.int) (by rfl) (by (clear fin; lia)) ?_ ?_
      · rw [List.length_map, l1]
        have : (1 + u).toNat * (2 + sz).toNat ≤ 6 * 60 := Nat.mul_le_mul (by lia) (by lia)
        lia
      refine Ex_nil (fin _ _ ⟨(rep ls (2 + sz).toNat, a4, b4), ⟨Lets.rep l2 _, ?_, fun _ => ?_⟩, SubV.cons (by rw [rep_map]; rfl) (SubV.all (by rfl)), rfl⟩)
      · show (rep ls _).length ≤ 1000
        rw [rep_length, l1]
        have : (1 + u).toNat * (2 + sz).toNat ≤ 6 * 60 := Nat.mul_le_mul (by lia) (by lia)
        lia
      · show 2 + sz ≤ ((rep ls _).length : Int)
        rw [rep_length, l1]
        have : 1 * (2 + sz).toNat ≤ (1 + u).toNat * (2 + sz).toNat := Nat.mul_le_mul (by (clear l1; lia)) (Nat.le_refl _)
        lia
    · have hw := of_decide_eq_false t
      exact Ex_nil (fin _ _ ⟨([], a2, b2), ⟨(fun _ h => nomatch h), by simp, fun e => absurd e hw⟩, SubV.all (by rfl), rfl⟩)
  refine Ex_cut (α := List Int × Int × Int) (fun s => Lets s.1 ∧ s.1.length ≤ 1000 ∧ (way = 0 ∨ way = 1 → 2 + sz ≤ s.1.length)) (fun s => [("text", .val (.list (s.1.map D.int))), ("size", .val (.int (2 + sz))), ("way", .val (.int way)), ("box", .val .box)]) (fun s => some (.two s.2.1 s.2.2)) ?_ fun ⟨ls, a3, b3⟩ ⟨p1, p2, p3⟩ => ?_
  · intro I fin
    repeat (walk_at "mine")
    refine And.intro (fun t => ?_) (fun t => ?_)
    · refine Ex_cons (Ex1_assign_tup (xs := ["last", "text"]) (by rfl) (by first | (left; rfl) | (right; rfl)) (by rfl) (by decide) ?_)
      refine EvL_cons ?_ (by rfl)
      refine Ev_fun (f := 328) (n := n + 2) ok (by rfl) (by rfl) (by rfl) (by rfl) (Nat.le_refl _) (by rfl) ?_
      refine EvD_cons (Ev_name (by rfl) (by rfl) ?_) (by rfl)
      refine EvD_cons (Ev_bin (Ev_int ?_)) (by rfl)
      refine Ev_fun (f := 323) (n := n + 1) ok (by rfl) (by rfl) (by rfl) (by rfl) (Nat.le_succ _) (by rfl) ?_
      repeat (walk_at "mine")
      refine take_ok ok (by decide) (by decide) fun a4 b4 u u0 u1 => ?_
      refine add_i ?_
      refine EvD_nil ?_
      refine piece_ok ok (by lia) (by lia) fun a5 b5 la l1 l2 => ?_
      refine EvL_cons ?_ (by rfl)
      refine Ev_fun (f := 328) (n := n + 2) ok (by rfl) (by rfl) (by rfl) (by rfl) (Nat.le_refl _) (by rfl) ?_
      refine EvD_cons (Ev_name (by rfl) (by rfl) ?_) (by rfl)
      refine EvD_cons (Ev_bin (Ev_int ?_)) (by rfl)
      refine Ev_fun (f := 323) (n := n + 1) ok (by rfl) (by rfl) (by rfl) (by rfl) (Nat.le_succ _) (by rfl) ?_
      repeat (walk_at "mine")
      refine take_ok ok (by decide) (by decide) fun a6 b6 v v0 v1 => ?_
      refine add_i ?_
      refine EvD_nil ?_
      refine piece_ok ok (by lia) (by lia) fun a7 b7 lt l3 l4 => ?_
      refine EvL_nil ⟨_, rfl, by simp, ?_⟩
      refine Ex_freeze "last" (by rfl) ?_
      refine Ex_freeze "text" (by rfl) ?_
      refine Ex_cons (Ex1_whileS (α := List Int × List Int) (fun s => Lets s.1 ∧ Lets s.2 ∧ 1 ≤ s.1.length ∧ 1 ≤ s.2.length ∧ s.1.length ≤ 200 ∧ s.2.length ≤ 60) (fun s => [("text", .val (.list (s.1.map D.int))), ("last", .val (.list (s.2.map D.int))), ("size", .val (.int (2 + sz))), ("way", .val (.int way)), ("box", .val .box)]) (fun _ => some (.two a7 b7)) (fun s => 1000 - s.1.length)
        ⟨(lt, la), ⟨l4, l2, by show 1 ≤ lt.length; lia, by show 1 ≤ la.length; lia, by show lt.length ≤ 200; lia, by show la.length ≤ 60; lia⟩, SubV.all (by rfl), rfl⟩ fun ⟨xt, xl⟩ ⟨q1, q2, q3, q4, q5, q6⟩ I2 fin2 => ?_)
      dsimp only at q1 q2 q3 q4 q5 q6 ⊢
      refine Ts_cmp ?_ (by rfl)
      refine Ev_len ok (by rfl) (by rfl) (by rfl) (Ev_name (by rfl) (by rfl) (len_l (ds := xt.map D.int) (by rfl) (by simp; lia) ?_))
      refine Ev_name (by rfl) (by rfl) (lt_i ?_)
      refine And.intro (fun t => ?_) (fun t => ?_)
      · have ht := of_decide_eq_true t
        rw [List.length_map] at ht
        refine Ex_cons (Ex1_assign_tup (xs := ["last", "text"]) (by rfl) (by first | (left; rfl) | (right; rfl)) (by rfl) (by decide) ?_)
        refine EvL_cons (Ev_name (by rfl) (by rfl) ?_) (by rfl)
        refine EvL_cons (Ev_bin (Ev_name (by rfl) (by rfl) (Ev_name (by rfl) (by rfl) (add_l (d1 := xt.map D.int) (d2 := xl.map D.int) (by rfl) (by rfl) (by simp; (clear ht; lia)) ?_)))) (by rfl)
        refine EvL_nil ⟨_, rfl, by simp, ?_⟩
        refine Ex_freeze "text" (by rfl) ?_
        refine Ex_nil (fin2 _ _ ⟨(xt ++ xl, xt), by show 1000 - (xt ++ xl).length < 1000 - xt.length; rw [List.length_append]; (clear l1 l3 q3 q6; omega), ⟨q1.app q2, q1, by show 1 ≤ (xt ++ xl).length; rw [List.length_append]; lia, q3, by show (xt ++ xl).length ≤ 200; rw [List.length_append]; lia, by show xt.length ≤ 60; lia⟩, SubV.cons (by rw [List.map_append]; rfl) (SubV.all (by rfl)), rfl⟩)
      · have ht := of_decide_eq_false t
        rw [List.length_map] at ht
        refine Ex_nil (Ex_nil (fin _ _ ⟨(xt, a7, b7), ⟨q1, by show xt.length ≤ 1000; lia, fun _ => by show 2 + sz ≤ (xt.length : Int); lia⟩, SubV.all (by rfl), rfl⟩))
    · have hw := of_decide_eq_false t
      exact Ex_nil (fin _ _ ⟨(ls, a3, b3), ⟨p1, p2, fun e => p3 (e.resolve_right hw)⟩, SubV.all (by rfl), rfl⟩)
  refine Ex_cut (α := List Int × Int × Int) (fun s => Lets s.1 ∧ s.1.length ≤ 1000 ∧ 2 + sz ≤ s.1.length) (fun s => [("text", .val (.list (s.1.map D.int))), ("size", .val (.int (2 + sz))), ("way", .val (.int way)), ("box", .val .box)]) (fun s => some (.two s.2.1 s.2.2)) ?_ fun ⟨ls, a3, b3⟩ ⟨p1, p2, p3⟩ => ?_
  · intro I fin
    repeat (walk_at "mine")
    refine And.intro (fun t => ?_) (fun t => ?_)
    · refine Ex_cons (Ex1_assign ?_ (by rfl) (by rfl))
      refine Ev_fun (f := 328) (n := n + 2) ok (by rfl) (by rfl) (by rfl) (by rfl) (Nat.le_refl _) (by rfl) ?_
      repeat (walk_at "mine")
      refine piece_ok ok (by (clear fin; lia)) (by (clear fin; lia)) fun a5 b5 la l1 l2 => ?_
      refine Ex_nil (fin _ _ ⟨(la, a5, b5), ⟨l2, by show la.length ≤ 1000; lia, by show 2 + sz ≤ (la.length : Int); lia⟩, SubV.all (by rfl), rfl⟩)
    · have hw := of_decide_eq_false t
      exact Ex_nil (fin _ _ ⟨(ls, a3, b3), ⟨p1, p2, p3 (by (clear t; lia))⟩, SubV.all (by rfl), rfl⟩)
  dsimp only at p1 p2 p3 ⊢
  refine Ex_cons (Ex1_assign_mu ?_ (by rfl) (by rfl))
  refine Ev_slice (Ev_name (by rfl) (by rfl) ?_)
  refine EvP_none (EvP_some (Ev_name (by rfl) (by rfl) ?_))
  refine And.intro (by simp; lia) ?_
  rw [cut_map, cut_take (by lia)]
  have hlen : ((ls.take (2 + sz).toNat).length : Int) = 2 + sz := by rw [List.length_take]; lia
  have hlet := p1.take (2 + sz).toNat
  generalize ls.take (2 + sz).toNat = xs at hlen hlet
  have fin : ∀ (xs : List Int) (a5 b5 : Int), (xs.length : Int) = 2 + sz → Lets xs → Q (some (.two a5 b5)) (.val (.bytes xs)) := fun xs a5 b5 h1 h2 => h a5 b5 xs (by lia) (by lia) h2
  refine Ex_cons (Ex1_if (Ts_cmp ?_ (by rfl)))
  refine Ev_fun (f := 323) (n := n + 1) ok (by rfl) (by rfl) (by rfl) (by rfl) (Nat.le_succ _) (by rfl) ?_
  repeat (walk_at "mine")
  refine take_ok ok (by decide) (by decide) fun a5 b5 u u0 u1 => ?_
  refine Ev_int (eq_i ?_)
  refine And.intro (fun t => ?_) (fun t => ?_)
  · refine Ex_cons (Ex1_assign_tup (xs := ["spot", "letter"]) (by rfl) (by first | (left; rfl) | (right; rfl)) (by rfl) (by decide) ?_)
    refine EvL_cons ?_ (by rfl)
    refine Ev_fun (f := 323) (n := n + 1) ok (by rfl) (by rfl) (by rfl) (by rfl) (Nat.le_succ _) (by rfl) ?_
    repeat (walk_at "mine")
    refine take_ok ok (by (clear hlen; lia)) (by lia) fun a6 b6 spot s0 s1 => ?_
    refine EvL_cons (Ev_bin (Ev_int ?_)) (by rfl)
    refine Ev_fun (f := 323) (n := n + 1) ok (by rfl) (by rfl) (by rfl) (by rfl) (Nat.le_succ _) (by rfl) ?_
    repeat (walk_at "mine")
    refine take_ok ok (by decide) (by decide) fun a7 b7 v v0 v1 => ?_
    refine add_i ?_
    refine EvL_nil ⟨_, rfl, by simp, ?_⟩
    refine Ex_cons (Ex1_setitem (x := "text") (ds := xs.map D.int) (by rfl) (by rfl) (by rfl) (Ev_name (by rfl) (by rfl) ?_))
    refine Ev_name (by rfl) (by rfl) ?_
    refine And.intro s0 ⟨by rw [List.length_map]; lia, by rw [List.length_map]; lia, ?_⟩
    refine Ex_nil (Ex_cons (Ex1_ret ?_))
    refine Ev_bytes ok (by rfl) (by rfl) (by rfl) (Ev_name_mu (by rfl) (by rfl) ?_)
    have e : (xs.map D.int).set spot.toNat (D.int (97 + v)) = (xs.set spot.toNat (97 + v)).map D.int := by rw [List.map_set]
    have hl' : Lets (xs.set spot.toNat (97 + v)) := hlet.set (by (clear hlen e; lia))
    refine bytes_l (ns := xs.set spot.toNat (97 + v)) (by rw [← e]; rfl) (fun c hc => by have := hl' c hc; lia) (by rw [List.length_set]; lia) ?_
    exact fin _ _ _ (by rw [List.length_set]; exact hlen) hl'
  · refine Ex_nil (Ex_cons (Ex1_ret ?_))
    refine Ev_bytes ok (by rfl) (by rfl) (by rfl) (Ev_name_mu (by rfl) (by rfl) ?_)
    refine bytes_l (ns := xs) (by rfl) (fun c hc => by have := hlet c hc; lia) (by lia) ?_
    exact fin _ _ _ hlen hlet
end
section
set_option maxRecDepth 100000
set_option maxHeartbeats 8000000
set_option linter.unusedVariables false
theorem D_far {C : Cx} (ok : C.Ok) : DefAt C 340 ["finder", "size"] (bodyAt C.K 340) (scAt C.K 340) := by
  refine DefAt.of ok (by rfl) fun fd e vs hl s X => bindsN X fun S => ?_
  cases e
  obtain ⟨a, b, rfl⟩ := len2 hl
  rfl
noncomputable def farRow (oc : List Int) (p : Int) : List Int := (upto 0 p.toNat).map fun o => (lenN oc p.toNat o.toNat oc.length : Int)
noncomputable def farAll (oc : List Int) : List (List Int) := (upto 0 oc.length).map (farRow oc)
theorem far_ok {C : Cx} (ok : C.Ok) {n w : Nat} {Cl : Addr} {fs : List (Str × D)} {oc : List Int} {bs : BS} {Q : BS → R → Prop}
    (ho : Obj C Cl fs oc w) (h : Q bs (.own ((farAll oc).map DL))) : Fn C (n + 3) (.ref 340) [.inst Cl fs, .int oc.length] bs Q := by
  refine Fn_def ok (D_far ok) rfl (by rfl) ?_
  have hz := ho.size
  refine Ex_cons (Ex1_ret ?_)
  refine Ev_compR 0 oc.length (fun p => some (DL (farRow oc p))) (by decide) (by lia) ?_ (fun p hp0 hp1 => ?_) (by rfl) (by rfl) (by rfl) (by rfl) (by rfl)
  · repeat (walk_at "mine")
    refine range_1 ⟨⟨_, rfl, by lia, by lia, by lia⟩, rfl, ?_⟩
    have e : (upto 0 oc.length).filterMap (fun p => some (DL (farRow oc p))) = (farAll oc).map DL := by
      rw [farAll, List.map_map, ← List.filterMap_eq_map]; rfl
    rw [e]; exact h
  refine TsL_nil (And.intro (fun _ => ?_) (fun t => nomatch t))
  refine Ev_compR 0 p.toNat (fun o => some (.int (lenN oc p.toNat o.toNat oc.length))) (by decide) (by lia) ?_ (fun o ho0 ho1 => ?_) (by rfl) (by rfl) (by rfl) (by rfl) (by rfl)
  · repeat (walk_at "mine")
    refine range_1 ⟨⟨_, rfl, by lia, by lia, by lia⟩, rfl, rfl, ?_⟩
    rw [show (fun o : Int => some (D.int (lenN oc p.toNat o.toNat oc.length))) = some ∘ (fun o : Int => D.int (lenN oc p.toNat o.toNat oc.length)) from rfl, List.filterMap_eq_map]
    unfold DL farRow
    rw [List.map_map]; rfl
  refine TsL_nil (And.intro (fun _ => ?_) (fun t => nomatch t))
  refine Ev_meth (n := n + 2) ok (by rfl) (by rfl) ho.m3.1 ho.m3.2 ?_ (Nat.le_refl _) (by rfl) (by rfl) (by decide)
  repeat (walk_at "mine")
  obtain ⟨p', rfl⟩ := Int.eq_ofNat_of_zero_le hp0
  obtain ⟨o', rfl⟩ := Int.eq_ofNat_of_zero_le ho0
  exact length_ok ok ho (by lia) (by lia) ⟨rfl, rfl⟩
end
section
set_option maxRecDepth 100000
set_option maxHeartbeats 8000000
set_option linter.unusedVariables false
theorem D_less {C : Cx} (ok : C.Ok) : DefAt C 347 ["told", "begin", "end", "other", "stop"] (bodyAt C.K 347) (scAt C.K 347) := by
  refine DefAt.of ok (by rfl) fun fd e vs hl s X => bindsN X fun S => ?_
  cases e
  obtain ⟨a, b, c, d, f, rfl⟩ := len5 hl
  rfl
theorem D_isword {C : Cx} (ok : C.Ok) : DefAt C 354 ["told", "begin", "end"] (bodyAt C.K 354) (scAt C.K 354) := by
  refine DefAt.of ok (by rfl) fun fd e vs hl s X => bindsN X fun S => ?_
  cases e
  obtain ⟨a, b, c, rfl⟩ := len3 hl
  rfl
theorem D_words {C : Cx} (ok : C.Ok) : DefAt C 359 ["told", "size"] (bodyAt C.K 359) (scAt C.K 359) := by
  refine DefAt.of ok (by rfl) fun fd e vs hl s X => bindsN X fun S => ?_
  cases e
  obtain ⟨a, b, rfl⟩ := len2 hl
  rfl
noncomputable def tellD (oc : List Int) : D := .list [.list ((farAll oc).map DL), .bytes oc]
/-- what _law_less answers -/
noncomputable def lessB (oc : List Int) (b e o s : Nat) : Bool :=
  let c := lenN oc o b oc.length
  if min ((e : Int) - b) ((s : Int) - o) ≤ (c : Int) then decide ((e : Int) - b < (s : Int) - o) else decide (oc.getD (b + c) 0 < oc.getD (o + c) 0)
theorem upto_get {a : Int} {n k : Nat} (h : k < n) : (upto a n)[k]? = some (a + k) := by
  unfold upto; simp [h]
theorem less_ok {C : Cx} (ok : C.Ok) {n : Nat} {oc : List Int} {b e o s : Nat} {bs : BS} {Q : BS → R → Prop}
    (hz : oc.length ≤ 1000) (h1 : b < o) (h2 : o < oc.length) (h3 : e ≤ oc.length) (h4 : s ≤ oc.length) (h : Q bs (.val (.bool (lessB oc b e o s)))) : Fn C (n + 1) (.ref 347) [tellD oc, .int b, .int e, .int o, .int s] bs Q := by
  refine Fn_def ok (D_less ok) rfl (by rfl) ?_
  refine Ex_cons (Ex1_unpackL (xs := ["far", "text"]) (by rfl) (by rfl) (by decide) (by rfl) (by rfl) (Ev_name (by rfl) (by rfl) ⟨_, _, rfl, rfl, ?_⟩))
  refine Ex_cons (Ex1_assign ?_ (by rfl) (by rfl))
  refine Ev_sub (Ev_sub (Ev_name (by rfl) (by rfl) ?_) (by rfl)) (by rfl)
  have r1 : ((farAll oc).map DL)[(o : Int).toNat]? = some (DL (farRow oc o)) := by
    simp only [Int.toNat_natCast, List.getElem?_map, farAll, upto_get h2]; simp
  refine Ev_name (by rfl) (by rfl) ⟨rfl, item_l (d := DL (farRow oc o)) (by rfl) (by (clear h1; lia)) (by lia) r1 ?_⟩
  have r2 : ((farRow oc o).map D.int)[(b : Int).toNat]? = some (.int (lenN oc o b oc.length)) := by
    simp only [Int.toNat_natCast, List.getElem?_map, farRow, upto_get h1]; simp
  refine Ev_name (by rfl) (by rfl) ⟨rfl, item_l (d := .int (lenN oc o b oc.length)) (by rfl) (by lia) (by lia) r2 ?_⟩
  repeat (walk_at "mine")
  refine min_ii ?_
  refine ge_i ?_
  refine And.intro (fun t => ?_) (fun t => ?_)
  · repeat (walk_at "mine")
    have ht := of_decide_eq_true t
    have : lessB oc b e o s = decide ((e : Int) - b < (s : Int) - o) := by unfold lessB; dsimp only; rw [if_pos ht]
    rw [this] at h; exact h
  · have ht := of_decide_eq_false t
    have e1 : lessB oc b e o s = decide (oc.getD (b + lenN oc o b oc.length) 0 < oc.getD (o + lenN oc o b oc.length) 0) := by unfold lessB; dsimp only; rw [if_neg ht]
    rw [e1] at h
    generalize lenN oc o b oc.length = c at *
    have g1 : b + c < oc.length := by (clear h1; omega)
    have g2 : o + c < oc.length := by (clear h2; omega)
    refine Ex_nil (Ex_cons (Ex1_ret (Ev_cmp ?_ (by rfl))))
    refine Ev_sub (Ev_name (by rfl) (by rfl) ?_) (by rfl)
    repeat (walk_at "mine")
    refine ⟨rfl, item_by (c := oc[b + c]) (by lia) (by lia) (by rw [show ((b : Int) + (c : Int)).toNat = b + c by lia]; simp [g1]) ?_⟩
    refine Ev_sub (Ev_name (by rfl) (by rfl) ?_) (by rfl)
    repeat (walk_at "mine")
    refine ⟨rfl, item_by (c := oc[o + c]) (by (clear h1; lia)) (by lia) (by rw [show ((o : Int) + (c : Int)).toNat = o + c by lia]; simp [g2]) ?_⟩
    refine lt_i ?_
    simp only [List.getD_eq_getElem?_getD, List.getElem?_eq_getElem g1, List.getElem?_eq_getElem g2, Option.getD_some] at h
    exact h
noncomputable def wordB (oc : List Int) (b e : Nat) : Bool := (List.range (e - b - 1)).all fun k => lessB oc b e (b + 1 + k) e
theorem isword_ok {C : Cx} (ok : C.Ok) {n : Nat} {oc : List Int} {b e : Nat} {bs : BS} {Q : BS → R → Prop}
    (hz : oc.length ≤ 1000) (h1 : b < e) (h3 : e ≤ oc.length) (h : Q bs (.val (.bool (wordB oc b e)))) : Fn C (n + 2) (.ref 354) [tellD oc, .int b, .int e] bs Q := by
  refine Fn_def ok (D_isword ok) rfl (by rfl) ?_
  refine Ex_cons (Ex1_forS (α := Nat) (fun xs i => i ≤ e - b - 1 ∧ xs = (upto (b + 1 + i) (e - b - 1 - i)).map D.int ∧ (∀ k < i, lessB oc b e (b + 1 + k) e = true)) (fun _ => [("told", .val (tellD oc)), ("begin", .val (.int b)), ("end", .val (.int e))]) (fun _ => bs) ?_ ?_ ?_ (by rfl) (by rfl))
  · repeat (walk_at "mine")
    refine range_2 ⟨_, 0, ItOk_up (by lia) (by (clear h1; lia)), ⟨Nat.zero_le _, ?_, fun k hk => absurd hk (Nat.not_lt_zero _)⟩, SubV.all (by rfl), rfl⟩
    congr 1
    rw [show ((e : Int) - ((b : Int) + 1)).toNat = e - b - 1 - 0 by lia]
    congr 1 <;> omega
  · intro x rest i ⟨i1, i2, i3⟩ I fin
    obtain ⟨hx, hr, hi⟩ : x = .int ((b + 1 + i : Nat) : Int) ∧ rest = (upto (b + 1 + (i + 1 : Nat)) (e - b - 1 - (i + 1))).map D.int ∧ i < e - b - 1 := by
      cases q : e - b - 1 - i with
      | zero => rw [q] at i2; cases i2
      | succ k =>
        rw [q, upto_succ, List.map_cons] at i2
        cases i2
        refine ⟨by congr 1, ?_, by (clear h1 i1; omega)⟩
        rw [show e - b - 1 - (i + 1) = k by (clear hz; omega)]
        congr 2 <;> omega
    subst hx
    refine ⟨_, rfl, ?_⟩
    refine Ex_cons (Ex1_if (Ts_not (Ts_val ?_ (fun _ _ => rfl))))
    refine Ev_fun (f := 347) (n := n + 1) ok (by rfl) (by rfl) (by rfl) (by rfl) (Nat.le_refl _) (by rfl) ?_
    repeat (walk_at "mine")
    refine less_ok ok hz (by (clear i2; lia)) (by (clear h1; omega)) h3 h3 ?_
    refine And.intro (fun t => ?_) (fun t => ?_)
    · have hf : lessB oc b e (b + 1 + i) e = false := by simpa using t
      refine Ex_cons (Ex1_ret (Ev_bool ?_))
      have : wordB oc b e = false := by
        unfold wordB
        rw [List.all_eq_false]
        exact ⟨i, List.mem_range.mpr hi, by rw [hf]; decide⟩
      rw [this] at h; exact h
    · have hf : lessB oc b e (b + 1 + i) e = true := by simpa using t
      refine Ex_nil (Ex_nil (fin _ _ ⟨i + 1, ⟨by assumption, hr, fun k hk => ?_⟩, SubV.all (by rfl), rfl⟩))
      by_cases q : k = i
      · subst q; exact hf
      · exact i3 k (by lia)
  · intro i ⟨i1, i2, i3⟩
    have hi : i = e - b - 1 := by
      have := congrArg List.length i2
      simp [upto_length] at this; (clear h1; omega)
    refine Ex_nil (Ex_cons (Ex1_ret (Ev_bool ?_)))
    have : wordB oc b e = true := by
      unfold wordB
      rw [List.all_eq_true]
      exact fun k hk => i3 k (by have := List.mem_range.mp hk; (clear i1; lia))
    rw [this] at h; exact h
/-- the ends of the words that begin at a place -/
noncomputable def endsOf (oc : List Int) (b : Int) : List Int := (upto (b + 1) (oc.length - b.toNat)).filter fun e => wordB oc b.toNat e.toNat
noncomputable def wordsOf (oc : List Int) : List (List Int) := (upto 0 oc.length).map (endsOf oc)
theorem filterMap_ite {p : Int → Bool} : ∀ (l : List Int), (l.filterMap fun i => if p i = true then some (D.int i) else none) = (l.filter p).map D.int
  | [] => rfl
  | x :: l => by
    rw [List.filterMap_cons, List.filter_cons]
    cases h : p x with
    | true => simp only [if_true, List.map_cons, filterMap_ite l]
    | false => simp only [Bool.false_eq_true, if_false, filterMap_ite l]
theorem words_ok {C : Cx} (ok : C.Ok) {n : Nat} {oc : List Int} {bs : BS} {Q : BS → R → Prop}
    (hz : oc.length ≤ 1000) (h : Q bs (.own ((wordsOf oc).map DL))) : Fn C (n + 3) (.ref 359) [tellD oc, .int oc.length] bs Q := by
  refine Fn_def ok (D_words ok) rfl (by rfl) ?_
  refine Ex_cons (Ex1_ret ?_)
  refine Ev_compR 0 oc.length (fun p => some (DL (endsOf oc p))) (by decide) (by lia) ?_ (fun p hp0 hp1 => ?_) (by rfl) (by rfl) (by rfl) (by rfl) (by rfl)
  · repeat (walk_at "mine")
    refine range_1 ⟨⟨_, rfl, by lia, by lia, by lia⟩, rfl, ?_⟩
    have e : (upto 0 oc.length).filterMap (fun p => some (DL (endsOf oc p))) = (wordsOf oc).map DL := by
      rw [wordsOf, List.map_map, ← List.filterMap_eq_map]; rfl
    rw [e]; exact h
  refine TsL_nil (And.intro (fun _ => ?_) (fun t => nomatch t))
  obtain ⟨p, rfl⟩ := Int.eq_ofNat_of_zero_le hp0
  refine Ev_compR (p + 1) (oc.length - p) (fun e => if wordB oc p e.toNat = true then some (.int e) else none) (by lia) (by (clear hp1; omega)) ?_ (fun e he0 he1 => ?_) (by rfl) (by rfl) (by rfl) (by rfl) (by rfl)
  · repeat (walk_at "mine")
    refine range_2 ⟨⟨_, rfl, by lia, by omega, by lia⟩, rfl, rfl, ?_⟩
    rw [filterMap_ite (p := fun e => wordB oc p e.toNat)]
    rfl
  obtain ⟨e, rfl⟩ := Int.eq_ofNat_of_zero_le (show 0 ≤ e by lia)
  refine TsL_cons (Ts_val ?_ (fun _ _ => rfl))
  refine Ev_fun (f := 354) (n := n + 2) ok (by rfl) (by rfl) (by rfl) (by rfl) (Nat.le_refl _) (by rfl) ?_
  repeat (walk_at "mine")
  refine isword_ok ok hz (by lia) (by lia) ?_
  refine And.intro (fun t => TsL_nil (And.intro (fun _ => ?_) (fun t => nomatch t))) (fun t => And.intro (fun t => nomatch t) (fun _ => ?_))
  · refine Ev_name (by rfl) (by rfl) ⟨rfl, ?_⟩
    rw [Int.toNat_natCast, if_pos t]
  · exact ⟨rfl, by rw [Int.toNat_natCast, if_neg (by rw [t]; decide)]⟩
end
section
set_option maxRecDepth 100000
set_option maxHeartbeats 8000000
set_option linter.unusedVariables false
theorem D_next {C : Cx} (ok : C.Ok) : DefAt C 376 ["told", "begin", "size"] (bodyAt C.K 376) (scAt C.K 376) := by
  refine DefAt.of ok (by rfl) fun fd e vs hl s X => bindsN X fun S => ?_
  cases e
  obtain ⟨a, b, c, rfl⟩ := len3 hl
  rfl
theorem D_row {C : Cx} (ok : C.Ok) : DefAt C 383 ["finder", "text", "begin", "end"] (bodyAt C.K 383) (scAt C.K 383) := by
  refine DefAt.of ok (by rfl) fun fd e vs hl s X => bindsN X fun S => ?_
  cases e
  obtain ⟨a, b, c, d, rfl⟩ := len4 hl
  rfl
/-- the next place whose end is not greater -/
noncomputable def nextF (oc : List Int) (b : Nat) : Nat → Nat → Nat
  | 0, p => p
  | j + 1, p => if lessB oc b oc.length p oc.length then nextF oc b j (p + 1) else p
noncomputable def nextN (oc : List Int) (b : Nat) : Nat := nextF oc b (oc.length - b - 1) (b + 1)
theorem next_ok {C : Cx} (ok : C.Ok) {n : Nat} {oc : List Int} {b : Nat} {bs : BS} {Q : BS → R → Prop}
    (hz : oc.length ≤ 1000) (h1 : b < oc.length) (h : Q bs (.val (.int (nextN oc b)))) : Fn C (n + 2) (.ref 376) [tellD oc, .int b, .int oc.length] bs Q := by
  refine Fn_def ok (D_next ok) rfl (by rfl) ?_
  generalize hN : oc.length = N at *
  refine Ex_cons (Ex1_forS (α := Nat) (fun xs i => i ≤ N - b - 1 ∧ xs = (upto (b + 1 + i) (N - b - 1 - i)).map D.int ∧ nextN oc b = nextF oc b (N - b - 1 - i) (b + 1 + i)) (fun _ => [("told", .val (tellD oc)), ("begin", .val (.int b)), ("size", .val (.int N))]) (fun _ => bs) ?_ ?_ ?_ (by rfl) (by rfl))
  · repeat (walk_at "mine")
    refine range_2 ⟨_, 0, ItOk_up (by lia) (by (clear h1; lia)), ⟨Nat.zero_le _, ?_, by rw [nextN, hN]; rfl⟩, SubV.all (by rfl), rfl⟩
    congr 1
    rw [show ((N : Int) - ((b : Int) + 1)).toNat = N - b - 1 - 0 by lia]
    congr 1 <;> omega
  · intro x rest i ⟨i1, i2, i3⟩ I fin
    obtain ⟨hx, hr, hi⟩ : x = .int ((b + 1 + i : Nat) : Int) ∧ rest = (upto (b + 1 + (i + 1 : Nat)) (N - b - 1 - (i + 1))).map D.int ∧ i < N - b - 1 := by
      cases q : N - b - 1 - i with
      | zero => rw [q] at i2; cases i2
      | succ k =>
        rw [q, upto_succ, List.map_cons] at i2
        cases i2
        refine ⟨by congr 1, ?_, by (clear hN h1 i1 i3; omega)⟩
        rw [show N - b - 1 - (i + 1) = k by (clear hN i3; omega)]
        congr 2 <;> omega
    subst hx
    have step : nextF oc b (N - b - 1 - i) (b + 1 + i) = if lessB oc b N (b + 1 + i) N then nextF oc b (N - b - 1 - (i + 1)) (b + 1 + (i + 1)) else b + 1 + i := by
      rw [show N - b - 1 - i = (N - b - 1 - (i + 1)) + 1 by (clear h i1; lia), nextF, hN]; rfl
    refine ⟨_, rfl, ?_⟩
    refine Ex_cons (Ex1_if (Ts_not (Ts_val ?_ (fun _ _ => rfl))))
    refine Ev_fun (f := 347) (n := n + 1) ok (by rfl) (by rfl) (by rfl) (by rfl) (Nat.le_refl _) (by rfl) ?_
    repeat (walk_at "mine")
    refine less_ok ok (by lia) (by lia) (by (clear h1 i3 step; omega)) (by lia) (by lia) ?_
    refine And.intro (fun t => ?_) (fun t => ?_)
    · have hf : lessB oc b N (b + 1 + i) N = false := by simpa using t
      refine Ex_cons (Ex1_ret (Ev_name (by rfl) (by rfl) ?_))
      rw [step, if_neg (by rw [hf]; decide)] at i3
      rw [i3] at h; exact h
    · have hf : lessB oc b N (b + 1 + i) N = true := by simpa using t
      rw [step, if_pos hf] at i3
      exact Ex_nil (Ex_nil (fin _ _ ⟨i + 1, ⟨by assumption, hr, i3⟩, SubV.all (by rfl), rfl⟩))
  · intro i ⟨i1, i2, i3⟩
    have hi : i = N - b - 1 := by
      have := congrArg List.length i2
      simp [upto_length] at this; (clear hN h1 i3; omega)
    refine Ex_nil (Ex_cons (Ex1_ret (Ev_name (by rfl) (by rfl) ?_)))
    rw [show N - b - 1 - i = 0 by (clear hN i1 i3; omega), nextF, show b + 1 + i = N by (clear hN i3; omega)] at i3
    rw [i3] at h; exact h
/-- is the end from p less than the one from o (both up to e) -/
noncomputable def lowC (oc : List Int) (p o e : Nat) : Bool :=
  let c := lenN oc p o (e - p)
  decide (p + c = e) || decide (oc.getD (p + c) 0 < oc.getD (o + c) 0)
noncomputable def lowB (oc : List Int) (b e p : Nat) : Bool := (List.range (p - b)).all fun k => lowC oc p (b + k) e
noncomputable def rowN (oc : List Int) (b e : Nat) : List Int := ((upto b (e - b)).filter fun p => lowB oc b e p.toNat) ++ [(e : Int)]
theorem alikeF_le (oc : List Int) (p o : Nat) : ∀ j k, alikeF oc p o j k ≤ k + j
  | 0, k => Nat.le_refl _
  | j + 1, k => by
    unfold alikeF
    split
    · have := alikeF_le oc p o j (k + 1); lia
    · lia
theorem lenN_le (oc : List Int) (p o m : Nat) : lenN oc p o m ≤ min m (oc.length - p) := by
  have := alikeF_le oc p o (min m (oc.length - p)) 0
  unfold lenN; lia
theorem row_ok {C : Cx} (ok : C.Ok) {n w : Nat} {Cl : Addr} {fs : List (Str × D)} {oc : List Int} {b e : Nat} {bs : BS} {Q : BS → R → Prop}
    (ho : Obj C Cl fs oc w) (h1 : b ≤ e) (h2 : e ≤ oc.length) (h : Q bs (.own ((rowN oc b e).map D.int))) : Fn C (n + 3) (.ref 383) [.inst Cl fs, .bytes oc, .int b, .int e] bs Q := by
  refine Fn_def ok (D_row ok) rfl (by rfl) ?_
  have hz := ho.size
  refine Ex_cons (Ex1_assign_mu (Ev_list (EvD_nil ⟨by decide, ?_⟩)) (by rfl) (by rfl))
  refine Ex_cons (Ex1_forS (α := Nat) (fun xs i => i ≤ e - b ∧ xs = (upto (b + i) (e - b - i)).map D.int) (fun i => [("found", .mu (((upto b i).filter fun p => lowB oc b e p.toNat).map D.int)), ("finder", .val (.inst Cl fs)), ("text", .val (.bytes oc)), ("begin", .val (.int b)), ("end", .val (.int e))]) (fun _ => bs) ?_ ?_ ?_ (by rfl) (by rfl))
  · repeat (walk_at "mine")
    refine range_2 ⟨_, 0, ItOk_up (by lia) (by lia), ⟨Nat.zero_le _, ?_⟩, SubV.all (by rfl), rfl⟩
    rw [show ((e : Int) - (b : Int)).toNat = e - b - 0 by lia]
    congr 1 <;> omega
  · intro x rest i ⟨i1, i2⟩ I fin
    obtain ⟨hx, hr, hi⟩ : x = .int ((b + i : Nat) : Int) ∧ rest = (upto (b + (i + 1 : Nat)) (e - b - (i + 1))).map D.int ∧ i < e - b := by
      cases q : e - b - i with
      | zero => rw [q] at i2; cases i2
      | succ k =>
        rw [q, upto_succ, List.map_cons] at i2
        cases i2
        refine ⟨by congr 1, ?_, by (clear h1 i1; omega)⟩
        rw [show e - b - (i + 1) = k by omega]
        congr 2 <;> omega
    subst hx
    generalize hp : b + i = p at *
    refine ⟨_, rfl, ?_⟩
    refine Ex_cons (Ex1_assign (Ev_bool ?_) (by rfl) (by rfl))
    refine Ex_cons (Ex1_forS (α := Nat) (fun xs j => j ≤ p - b ∧ xs = (upto (b + j) (p - b - j)).map D.int) (fun j => [("low", .val (.bool ((List.range j).all fun k => lowC oc p (b + k) e))), ("place", .val (.int p)), ("found", .mu (((upto b i).filter fun p => lowB oc b e p.toNat).map D.int)), ("finder", .val (.inst Cl fs)), ("text", .val (.bytes oc)), ("begin", .val (.int b)), ("end", .val (.int e))]) (fun _ => bs) ?_ ?_ ?_ (by rfl) (by rfl))
    · repeat (walk_at "mine")
      refine range_2 ⟨_, 0, ItOk_up (by lia) (by (clear h1 hr i2; lia)), ⟨Nat.zero_le _, ?_⟩, SubV.all (by rfl), rfl⟩
      rw [show ((p : Int) - (b : Int)).toNat = p - b - 0 by (clear hp; lia)]
      congr 1 <;> omega
    · intro x rest j ⟨j1, j2⟩ I fin
      obtain ⟨hx, hr2, hj⟩ : x = .int ((b + j : Nat) : Int) ∧ rest = (upto (b + (j + 1 : Nat)) (p - b - (j + 1))).map D.int ∧ j < p - b := by
        cases q : p - b - j with
        | zero => rw [q] at j2; cases j2
        | succ k =>
          rw [q, upto_succ, List.map_cons] at j2
          cases j2
          refine ⟨by congr 1, ?_, by (clear h1 hp; omega)⟩
          rw [show p - b - (j + 1) = k by (clear hp; omega)]
          congr 2 <;> omega
      subst hx
      refine ⟨_, rfl, ?_⟩
      refine Ex_cons (Ex1_assign ?_ (by rfl) (by rfl))
      refine Ev_meth (n := n + 2) ok (by rfl) (by rfl) ho.m3.1 ho.m3.2 ?_ (Nat.le_refl _) (by rfl) (by rfl) (by decide)
      repeat (walk_at "mine")
      rw [show ((e : Int) - (p : Int)) = ((e - p : Nat) : Int) by (clear i1 i2; lia)]
      refine length_ok ok ho (by (clear i1 hr i2 hj; lia)) (by (clear h1 hp; omega)) ?_
      have fin1 : ∀ t : Bool, (t = ((List.range j).all (fun k => lowC oc p (b + k) e) && lowC oc p (b + j) e)) → t = (List.range (j + 1)).all fun k => lowC oc p (b + k) e := fun t ht => by
        rw [ht, List.range_succ, List.all_append]; simp
      refine Ex_cons (Ex1_assign (Ev_and (Ev_name (by rfl) (by rfl) ?_)) (by rfl) (by rfl))
      refine And.intro (fun t => ?_) (fun t => ?_)
      · refine Ev_or (Ev_cmp ?_ (by rfl))
        repeat (walk_at "mine")
        refine And.intro (fun t2 => ?_) (fun t2 => ?_)
        · have hC : lowC oc p (b + j) e = true := by
            have := of_decide_eq_true t2
            unfold lowC; dsimp only; rw [decide_eq_true (by (clear hp t2; lia))]; rfl
          refine Ex_nil (fin _ _ ⟨j + 1, ⟨by assumption, hr2⟩, SubV.cons ?_ (SubV.all (by rfl)), rfl⟩)
          rw [← fin1 true (by rw [t, hC]; rfl)]; rfl
        · have hne := of_decide_eq_false t2
          have hC : lowC oc p (b + j) e = decide (oc.getD (p + lenN oc p (b + j) (e - p)) 0 < oc.getD (b + j + lenN oc p (b + j) (e - p)) 0) := by
            unfold lowC; dsimp only; rw [decide_eq_false (by (clear hp t2; lia))]; rfl
          have hle := lenN_le oc p (b + j) (e - p)
          generalize lenN oc p (b + j) (e - p) = c at *
          have g1 : p + c < oc.length := by (clear i1 i2 fin1 t2; lia)
          have g2 : b + j + c < oc.length := by (clear hp hne hle; omega)
          refine Ev_cmp ?_ (by rfl)
          refine Ev_sub (Ev_name (by rfl) (by rfl) ?_) (by rfl)
          repeat (walk_at "mine")
          refine ⟨rfl, item_by (c := oc[p + c]) (by (clear hp; lia)) (by lia) (by rw [show ((p : Int) + (c : Int)).toNat = p + c by (clear hp fin1; lia)]; simp [g1]) ?_⟩
          refine Ev_sub (Ev_name (by rfl) (by rfl) ?_) (by rfl)
          repeat (walk_at "mine")
          refine ⟨rfl, item_by (c := oc[b + j + c]) (by (clear hr2; lia)) (by lia) (by rw [show (((b + j : Nat) : Int) + (c : Int)).toNat = b + j + c by (clear j2 fin1; lia)]; simp [g2]) ?_⟩
          refine lt_i ?_
          refine Ex_nil (fin _ _ ⟨j + 1, ⟨by assumption, hr2⟩, SubV.cons ?_ (SubV.all (by rfl)), rfl⟩)
          rw [← fin1 (decide (oc[p + c] < oc[b + j + c])) (by rw [t, hC]; simp [g1, g2])]; rfl
      · refine Ex_nil (fin _ _ ⟨j + 1, ⟨by assumption, hr2⟩, SubV.cons ?_ (SubV.all (by rfl)), rfl⟩)
        rw [← fin1 false (by rw [t]; rfl)]; rfl
    · intro j ⟨j1, j2⟩
      have hj : j = p - b := by
        have := congrArg List.length j2
        simp [upto_length] at this; (clear hp j2; lia)
      have hl : ((List.range j).all fun k => lowC oc p (b + k) e) = lowB oc b e p := by rw [hj]; rfl
      rw [hl]
      have hu : upto b (i + 1) = upto b i ++ [(p : Int)] := by
        unfold upto; rw [List.range_succ, List.map_append, ← hp]; simp
      refine Ex_nil (Ex_cons (Ex1_if (Ts_val (Ev_name (by rfl) (by rfl) ?_) (fun _ _ => rfl))))
      refine And.intro (fun t => ?_) (fun t => ?_)
      · refine Ex_cons (Ex1_append (x := "found") (by rfl) (by rfl) ?_ (by rfl) (Ev_name (by rfl) (by rfl) ?_) (by rfl) ?_)
        · have := List.length_filter_le (fun p : Int => lowB oc b e p.toNat) (upto b i)
          rw [upto_length] at this
          simp; (clear h1 hi hp i2; lia)
        · refine Ex_nil (Ex_nil (fin _ _ ⟨i + 1, ⟨by assumption, hr⟩, SubV.cons ?_ (SubV.all (by rfl)), rfl⟩))
          rw [hu, List.filter_append]
          simp only [List.filter_cons, Int.toNat_natCast, t, if_true, List.filter_nil, List.map_append]
          rfl
        · exact fun env he => by unfold interactive; rw [he]; rfl
      · refine Ex_nil (Ex_nil (fin _ _ ⟨i + 1, ⟨by assumption, hr⟩, SubV.cons ?_ (SubV.all (by rfl)), rfl⟩))
        rw [hu, List.filter_append]
        simp only [List.filter_cons, Int.toNat_natCast, t, List.filter_nil, List.map_append]
        simp only [Bool.false_eq_true, if_false, List.map_nil, List.append_nil]
        rfl
  · intro i ⟨i1, i2⟩
    have hi : i = e - b := by
      have := congrArg List.length i2
      simp [upto_length] at this; (clear h1; omega)
    subst hi
    refine Ex_nil (Ex_cons (Ex1_ret (Ev_bin (Ev_name_mu (by rfl) (by rfl) ?_))))
    refine Ev_list (EvD_cons (Ev_name (by rfl) (by rfl) ?_) (by rfl))
    refine EvD_nil ⟨by simp, ?_⟩
    refine add_l (d1 := ((upto b (e - b)).filter fun p => lowB oc b e p.toNat).map D.int) (d2 := [.int e]) (by rfl) (by rfl) ?_ ?_
    · have := List.length_filter_le (fun p : Int => lowB oc b e p.toNat) (upto b (e - b))
      rw [upto_length] at this
      simp; (clear h1; lia)
    · rw [rowN, List.map_append] at h; exact h
end
section
set_option maxRecDepth 100000
set_option maxHeartbeats 8000000
set_option linter.unusedVariables false
theorem D_runs {C : Cx} (ok : C.Ok) : DefAt C 388 ["finder", "text", "row"] (bodyAt C.K 388) (scAt C.K 388) := by
  refine DefAt.of ok (by rfl) fun fd e vs hl s X => bindsN X fun S => ?_
  cases e
  obtain ⟨a, b, c, rfl⟩ := len3 hl
  rfl
theorem okN_ints (l : List Int) (n : Nat) : (D.list (l.map D.int)).okN (n + 1) = true := by
  simp only [D.okN, List.all_eq_true, List.mem_map]
  rintro d ⟨i, _, rfl⟩
  cases n <;> rfl
theorem list_int_inj {a b : List Int} : D.list (a.map D.int) = D.list (b.map D.int) ↔ a = b := by
  constructor
  · intro h
    rw [D.list.injEq] at h
    induction a generalizing b with
    | nil => cases b with
      | nil => rfl
      | cons y b => cases h
    | cons x a ih => cases b with
      | nil => cases h
      | cons y b =>
        rw [List.map_cons, List.map_cons, List.cons.injEq, D.int.injEq] at h
        rw [h.1, ih h.2]
  · rintro rfl; rfl
/-- what is asked of a word that is said again and again -/
noncomputable def runC (oc : List Int) (w : Nat) (row : List Int) (i : Nat) : Bool :=
  let b := row.getD i 0
  let h := row.getD (i + 1) 0
  let reach : Int := repN oc w h.toNat (h - b).toNat oc.length
  let many := 1 + reach.fdiv (h - b)
  decide (cut (some i) (some (i + many + 1)) row = (upto 0 (many + 1).toNat).map fun t => b + t * (h - b)) &&
    !(decide (h + reach < oc.length) && decide (oc.getD (h + reach - (h - b)).toNat 0 ≤ oc.getD (h + reach).toNat 0))
noncomputable def runsB (oc : List Int) (w : Nat) (row : List Int) : Bool := (List.range (row.length - 1)).all (runC oc w row)
theorem runs_ok {C : Cx} (ok : C.Ok) {n w : Nat} {Cl : Addr} {fs : List (Str × D)} {oc row : List Int} {bs : BS} {Q : BS → R → Prop}
    (ho : Obj C Cl fs oc w) (hl : row.length ≤ 1000) (hl1 : 1 ≤ row.length) (hr : ∀ i, i + 1 < row.length → 0 ≤ row.getD i 0 ∧ row.getD i 0 < row.getD (i + 1) 0 ∧ row.getD (i + 1) 0 ≤ oc.length)
    (h : Q bs (.val (.bool (runsB oc w row)))) : Fn C (n + 4) (.ref 388) [.inst Cl fs, .bytes oc, DL row] bs Q := by
  refine Fn_def ok (D_runs ok) rfl (by rfl) ?_
  have hz := ho.size
  refine Ex_cons (Ex1_forS (α := Nat) (fun xs i => i ≤ row.length - 1 ∧ xs = (upto i (row.length - 1 - i)).map D.int ∧ (∀ k < i, runC oc w row k = true)) (fun i => [("finder", .val (.inst Cl fs)), ("text", .val (.bytes oc)), ("row", .val (DL row))]) (fun _ => bs) ?_ ?_ ?_ (by rfl) (by rfl))
  · refine Ev_range ok (by rfl) (by rfl) (by rfl) (EvD_cons (Ev_bin (Ev_len ok (by rfl) (by rfl) (by rfl) (Ev_name (by rfl) (by rfl) (len_l (ds := row.map D.int) (by rfl) (by simp; lia) ?_)))) (by rfl))
    repeat (walk_at "mine")
    refine range_1 ⟨_, 0, ItOk_up (by lia) (by rw [List.length_map]; (clear hl1; lia)), ⟨Nat.zero_le _, ?_, fun k hk => absurd hk (Nat.not_lt_zero _)⟩, SubV.all (by rfl), rfl⟩
    rw [List.length_map, show ((row.length : Int) - 1 - 0).toNat = row.length - 1 - 0 by lia]; rfl
  · intro x rest i ⟨i1, i2, i3⟩ I fin
    obtain ⟨hx, hrest, hi⟩ : x = .int (i : Int) ∧ rest = (upto ((i + 1 : Nat) : Int) (row.length - 1 - (i + 1))).map D.int ∧ i < row.length - 1 := by
      cases q : row.length - 1 - i with
      | zero => rw [q] at i2; cases i2
      | succ k =>
        rw [q, upto_succ, List.map_cons] at i2
        cases i2
        refine ⟨rfl, ?_, by (clear hl hl1 hz i1; omega)⟩
        rw [show row.length - 1 - (i + 1) = k by (clear hz; omega)]; rfl
    subst hx
    obtain ⟨q1, q2, q3⟩ := hr i (by (clear hl1 hz; omega))
    have G1 : row[i]? = some (row.getD i 0) := by rw [List.getD_eq_getElem?_getD, List.getElem?_eq_getElem (by (clear hl hz hi; omega))]; rfl
    have G2 : row[i + 1]? = some (row.getD (i + 1) 0) := by rw [List.getD_eq_getElem?_getD, List.getElem?_eq_getElem (by (clear hl1; omega))]; rfl
    have hC : runC oc w row i = (decide (cut (some (i : Int)) (some (i + (1 + ((repN oc w (row.getD (i + 1) 0).toNat (row.getD (i + 1) 0 - row.getD i 0).toNat oc.length : Nat) : Int).fdiv (row.getD (i + 1) 0 - row.getD i 0)) + 1)) row = (upto 0 ((1 + ((repN oc w (row.getD (i + 1) 0).toNat (row.getD (i + 1) 0 - row.getD i 0).toNat oc.length : Nat) : Int).fdiv (row.getD (i + 1) 0 - row.getD i 0)) + 1).toNat).map fun t => row.getD i 0 + t * (row.getD (i + 1) 0 - row.getD i 0)) &&
      !(decide (row.getD (i + 1) 0 + ((repN oc w (row.getD (i + 1) 0).toNat (row.getD (i + 1) 0 - row.getD i 0).toNat oc.length : Nat) : Int) < oc.length) && decide (oc.getD (row.getD (i + 1) 0 + ((repN oc w (row.getD (i + 1) 0).toNat (row.getD (i + 1) 0 - row.getD i 0).toNat oc.length : Nat) : Int) - (row.getD (i + 1) 0 - row.getD i 0)).toNat 0 ≤ oc.getD (row.getD (i + 1) 0 + ((repN oc w (row.getD (i + 1) 0).toNat (row.getD (i + 1) 0 - row.getD i 0).toNat oc.length : Nat) : Int)).toNat 0))) := rfl
    generalize row.getD i 0 = b at *
    generalize row.getD (i + 1) 0 = g at *
    obtain ⟨b, rfl⟩ := Int.eq_ofNat_of_zero_le q1
    obtain ⟨g, rfl⟩ := Int.eq_ofNat_of_zero_le (show 0 ≤ g by (clear q3; lia))
    rw [Int.toNat_natCast, show ((g : Int) - (b : Int)).toNat = g - b by (clear hC; lia)] at hC
    have hre : repN oc w g (g - b) oc.length ≤ oc.length - g := by
      unfold repN; split
      · lia
      · have := lenN_le oc g (g - (g - b)) oc.length; (clear q1 q3; omega)
    refine ⟨_, rfl, ?_⟩
    refine Ex_cons (Ex1_assign_tup (xs := ["begin", "behind"]) (by rfl) (by first | (left; rfl) | (right; rfl)) (by rfl) (by decide) ?_)
    refine EvL_cons (Ev_sub (Ev_name (by rfl) (by rfl) ?_) (by rfl)) (by rfl)
    refine Ev_name (by rfl) (by rfl) ⟨rfl, item_l (d := .int b) (ds := row.map D.int) (by rfl) (by lia) (by omega) (by rw [Int.toNat_natCast, List.getElem?_map, G1]; rfl) ?_⟩
    refine EvL_cons (Ev_sub (Ev_name (by rfl) (by rfl) ?_) (by rfl)) (by rfl)
    repeat (walk_at "mine")
    refine ⟨rfl, item_l (d := .int g) (ds := row.map D.int) (by rfl) (by (clear hrest; lia)) (by omega) (by rw [show ((i : Int) + 1).toNat = i + 1 by lia, List.getElem?_map, G2]; rfl) ?_⟩
    refine EvL_nil ⟨_, rfl, by simp, ?_⟩
    refine Ex_cons (Ex1_assign ?_ (by rfl) (by rfl))
    repeat (walk_at "mine")
    refine Ex1_assign ?_ (by rfl) (by rfl)
    refine Ev_meth (n := n + 3) ok (by rfl) (by rfl) ho.m4.1 ho.m4.2 ?_ (Nat.le_refl _) (by rfl) (by rfl) (by decide)
    repeat (walk_at "mine")
    refine len_by (by lia) ?_
    refine EvD_nil ?_
    rw [show ((g : Int) - (b : Int)) = ((g - b : Nat) : Int) by lia] at *
    refine repeat_ok ok ho (by lia) ?_
    generalize repN oc w g (g - b) oc.length = re at *
    generalize hs : g - b = s at *
    refine Ex_cons (Ex1_assign_tup (xs := ["many", "stop"]) (by rfl) (by first | (left; rfl) | (right; rfl)) (by rfl) (by decide) ?_)
    refine EvL_cons (Ev_bin (Ev_int ?_)) (by rfl)
    repeat (walk_at "mine")
    refine div_i (by (clear hC; lia)) (by (clear q2 hre; omega)) ?_
    refine add_i ?_
    repeat (walk_at "mine")
    refine ⟨_, rfl, by simp, ?_⟩
    have hm0 : 0 ≤ (re : Int).fdiv (s : Int) := Int.fdiv_nonneg (by lia) (by (clear hs; lia))
    have hm1 : (re : Int).fdiv (s : Int) ≤ re := by rw [Int.fdiv_eq_ediv_of_nonneg _ (by (clear hs; lia))]; exact Int.ediv_le_self _ (by lia)
    generalize (re : Int).fdiv (s : Int) = mm at *
    have bad : runC oc w row i = false → runsB oc w row = false := fun e => by
      unfold runsB
      rw [List.all_eq_false]
      exact ⟨i, List.mem_range.mpr hi, by rw [e]; decide⟩
    refine Ex_cons (Ex1_if (Ts_cmp (Ev_slice (Ev_name (by rfl) (by rfl) ?_)) (by rfl)))
    refine EvP_some (Ev_name (by rfl) (by rfl) ?_)
    refine EvP_some (Ev_bin (Ev_bin (Ev_name (by rfl) (by rfl) ?_)))
    repeat (walk_at "mine")
    refine And.intro (by simp; lia) ?_
    rw [cut_map]
    refine Ev_compR 0 (1 + mm + 1).toNat (fun t => some (.int (b + t * s))) (by decide) (by (clear q2; lia)) ?_ (fun t t0 t1 => ?_) (by rfl) (by rfl) (by rfl) (by rfl) (by rfl)
    · repeat (walk_at "mine")
      refine range_1 ⟨⟨_, rfl, by (clear hC; lia), by (clear q2 hC; lia), by (clear hC; lia)⟩, rfl, ?_⟩
      have e : (upto 0 (1 + mm + 1).toNat).filterMap (fun t => some (D.int (b + t * s))) = ((upto 0 (1 + mm + 1).toNat).map fun t => (b : Int) + t * s).map D.int := by
        rw [List.map_map, ← List.filterMap_eq_map]; rfl
      rw [e]
      refine ne_d (d := .list ((cut (some (i : Int)) (some (i + (1 + mm) + 1)) row).map D.int)) (e := .list (((upto 0 (1 + mm + 1).toNat).map fun t => (b : Int) + t * s).map D.int)) (by rfl) (by rfl) (okN_ints _ _) (okN_ints _ _) fun t ht => ?_
      rw [Ne, list_int_inj] at ht
      refine And.intro (fun t1 => ?_) (fun t1 => ?_)
      · refine Ex_cons (Ex1_ret (Ev_bool ?_))
        rw [bad (by rw [hC, decide_eq_false (ht.mp t1)]; rfl)] at h; exact h
      · have heq : cut (some (i : Int)) (some (i + (1 + mm) + 1)) row = (upto 0 (1 + mm + 1).toNat).map fun t => (b : Int) + t * s := by
          by_cases q : cut (some (i : Int)) (some (i + (1 + mm) + 1)) row = (upto 0 (1 + mm + 1).toNat).map fun t => (b : Int) + t * s
          · exact q
          · rw [ht.mpr q] at t1; cases t1
        rw [decide_eq_true heq, Bool.true_and] at hC
        have next : runC oc w row i = true → ∃ a', (a' ≤ row.length - 1 ∧ rest = (upto (a' : Nat) (row.length - 1 - a')).map D.int ∧ ∀ k < a', runC oc w row k = true) ∧ a' = i + 1 := fun e => ⟨i + 1, ⟨by assumption, hrest, fun k hk => by
          by_cases q : k = i
          · rw [q]; exact e
          · exact i3 k (by lia)⟩, rfl⟩
        refine Ex_nil (Ex_cons (Ex1_if (Ts_boolop (TsA_and (Ts_cmp ?_ (by rfl))))))
        refine Ev_name (by rfl) (by rfl) ?_
        refine Ev_len ok (by rfl) (by rfl) (by rfl) (Ev_name (by rfl) (by rfl) (len_by (by lia) (lt_i ?_)))
        refine And.intro (fun t2 => ?_) (fun t2 => ?_)
        · have l2 := of_decide_eq_true t2
          refine TsA_and (Ts_cmp (Ev_sub (Ev_name (by rfl) (by rfl) ?_) (by rfl)) (by rfl))
          have g1 : g + re < oc.length := by (clear hre t2; lia)
          have g2 : g + re - s < oc.length := by (clear q1 q3 q2 hre hs; omega)
          refine Ev_name (by rfl) (by rfl) ⟨rfl, item_by (c := oc[g + re]) (by (clear q2; lia)) (by lia) (by rw [show ((g : Int) + (re : Int)).toNat = g + re by (clear hC; lia)]; simp [g1]) ?_⟩
          refine Ev_sub (Ev_name (by rfl) (by rfl) ?_) (by rfl)
          repeat (walk_at "mine")
          refine ⟨rfl, item_by (c := oc[g + re - s]) (by (clear hre hC next g2; lia)) (by lia) (by rw [show ((g : Int) + (re : Int) - (s : Int)).toNat = g + re - s by (clear hs; lia)]; simp [g2]) ?_⟩
          refine ge_i ?_
          rw [decide_eq_true l2, Bool.true_and, show ((g : Int) + (re : Int) - (s : Int)).toNat = g + re - s by (clear hs; lia), show ((g : Int) + (re : Int)).toNat = g + re by (clear hC; lia)] at hC
          simp only [List.getD_eq_getElem?_getD, List.getElem?_eq_getElem g1, List.getElem?_eq_getElem g2, Option.getD_some] at hC
          refine And.intro (fun t3 => TsA_and_nil (And.intro (fun _ => ?_) (fun t => nomatch t))) (fun t3 => And.intro (fun t => nomatch t) (fun _ => ?_))
          · refine Ex_cons (Ex1_ret (Ev_bool ?_))
            rw [bad (by rw [hC, t3]; rfl)] at h; exact h
          · obtain ⟨a', ha, _⟩ := next (by rw [hC, t3]; rfl)
            exact Ex_nil (Ex_nil (fin _ _ ⟨a', ha, SubV.all (by rfl), rfl⟩))
        · refine And.intro (fun t => nomatch t) (fun _ => ?_)
          obtain ⟨a', ha, _⟩ := next (by rw [hC, t2]; rfl)
          exact Ex_nil (Ex_nil (fin _ _ ⟨a', ha, SubV.all (by rfl), rfl⟩))
    · refine TsL_nil (And.intro (fun _ => ?_) (fun t => nomatch t))
      repeat (walk_at "mine")
      refine mul_i (by (clear hC; lia)) ?_
      refine add_i ?_
      exact ⟨rfl, rfl⟩
  · intro i ⟨i1, i2, i3⟩
    have hi : i = row.length - 1 := by
      have := congrArg List.length i2
      simp [upto_length] at this; (clear hl hz; omega)
    refine Ex_nil (Ex_cons (Ex1_ret (Ev_bool ?_)))
    have : runsB oc w row = true := by
      unfold runsB
      rw [List.all_eq_true]
      exact fun k hk => i3 k (by have := List.mem_range.mp hk; (clear i1; lia))
    rw [this] at h; exact h
end
section
set_option maxRecDepth 100000
set_option maxHeartbeats 8000000
set_option linter.unusedVariables false
theorem D_joined {C : Cx} (ok : C.Ok) : DefAt C 395 ["told", "places"] (bodyAt C.K 395) (scAt C.K 395) := by
  refine DefAt.of ok (by rfl) fun fd e vs hl s X => bindsN X fun S => ?_
  cases e
  obtain ⟨a, b, rfl⟩ := len2 hl
  rfl
/-- the top words of the row are put together while they rise -/
noncomputable def settle (oc : List Int) : List Int → List Int
  | p :: m :: b :: r => if lessB oc b.toNat m.toNat m.toNat p.toNat then settle oc (p :: b :: r) else p :: m :: b :: r
  | st => st
termination_by st => st.length
noncomputable def joinF (oc : List Int) (st ps : List Int) : List Int := ps.foldl (fun st p => settle oc (p :: st)) st
structure Good (n : Nat) (st : List Int) : Prop where
  dec : st.Pairwise (· > ·)
  low : ∀ x ∈ st, 0 ≤ x
  high : ∀ x ∈ st, x ≤ (n : Int)
theorem cut_neg {α : Type} {l : List α} {k : Nat} (h0 : 1 ≤ k) (h : k ≤ l.length) : cut none (some (-(k : Int))) l = l.take (l.length - k) := by
  unfold cut
  simp only [Option.elim, List.drop_zero, Nat.sub_zero]
  congr 1; unfold clipAt; lia
theorem joined_ok {C : Cx} (ok : C.Ok) {n : Nat} {oc ps : List Int} {bs : BS} {Q : BS → R → Prop}
    (hz : oc.length ≤ 1000) (hp : Good oc.length ps.reverse) (h : Q bs (.own ((joinF oc [] ps).reverse.map D.int))) : Fn C (n + 2) (.ref 395) [tellD oc, DL ps] bs Q := by
  refine Fn_def ok (D_joined ok) rfl (by rfl) ?_
  have small : ∀ st : List Int, Good oc.length st → st.length ≤ oc.length + 1 := by
    intro st ⟨h1, h2, h3⟩
    have key : ∀ (st : List Int) (m : Int), st.Pairwise (· > ·) → (∀ x ∈ st, 0 ≤ x) → (∀ x ∈ st, x ≤ m) → (st.length : Int) ≤ m + 1 ∨ st = [] := by
      intro st
      induction st with
      | nil => intros; exact .inr rfl
      | cons a st ih =>
        intro m k1 k2 k3
        left
        rw [List.pairwise_cons] at k1
        have ha := k3 a List.mem_cons_self
        have ha0 := k2 a List.mem_cons_self
        rcases ih (a - 1) k1.2 (fun x hx => k2 x (List.mem_cons_of_mem _ hx)) (fun x hx => by have := k1.1 x hx; lia) with e | e
        · rw [List.length_cons]; (clear k1; lia)
        · subst e; simp; lia
    rcases key st oc.length h1 h2 h3 with e | e
    · lia
    · subst e; simp
  refine Ex_cons (Ex1_assign_mu (Ev_list (EvD_nil ⟨by decide, ?_⟩)) (by rfl) (by rfl))
  refine Ex_cons (Ex1_forS (α := List Int) (fun xs st => ∃ qs : List Int, xs = qs.map D.int ∧ Good oc.length (qs.reverse ++ st) ∧ joinF oc st qs = joinF oc [] ps) (fun st => [("found", .mu (st.reverse.map D.int)), ("told", .val (tellD oc)), ("places", .val (DL ps))]) (fun _ => bs) ?_ ?_ ?_ (by rfl) (by rfl))
  · refine Ev_name (by rfl) (by rfl) ?_
    exact ⟨_, [], ItOk_list, ⟨ps, rfl, by rw [List.append_nil]; exact hp, rfl⟩, SubV.all (by rfl), rfl⟩
  · intro x rest st ⟨qs, e1, e2, e3⟩ I fin
    cases qs with
    | nil => cases e1
    | cons p qs =>
      cases e1
      rw [List.reverse_cons, List.append_assoc] at e2
      have hg : Good oc.length (p :: st) := ⟨(List.pairwise_append.mp e2.dec).2.1, fun x hx => e2.low x (List.mem_append_right _ hx), fun x hx => e2.high x (List.mem_append_right _ hx)⟩
      have hsm := small _ hg
      refine ⟨_, rfl, ?_⟩
      refine Ex_cons (Ex1_append (x := "found") (by rfl) (by rfl) (by simp at hsm ⊢; lia) (by rfl) (Ev_name (by rfl) (by rfl) ?_) (by rfl) (fun env he => by unfold interactive; rw [he]; rfl))
      refine Ex_cons (Ex1_whileS (α := List Int) (fun t => Good oc.length (p :: t) ∧ settle oc (p :: t) = settle oc (p :: st) ∧ (∀ x ∈ t, x ∈ st)) (fun t => [("found", .mu ((p :: t).reverse.map D.int)), ("place", .val (.int p)), ("told", .val (tellD oc)), ("places", .val (DL ps))]) (fun _ => bs) (fun t => t.length)
        ⟨st, ⟨hg, rfl, fun x hx => hx⟩, SubV.cons (by rw [List.reverse_cons, List.map_append]; rfl) (SubV.all (by rfl)), rfl⟩ fun t ⟨t1, t2, t3⟩ I2 fin2 => ?_)
      have htm := small _ t1
      have stop : settle oc (p :: t) = p :: t → ∃ a', (∃ qs', qs.map D.int = List.map D.int qs' ∧ Good oc.length (qs'.reverse ++ a') ∧ joinF oc a' qs' = joinF oc [] ps) ∧ a' = p :: t := fun e => by
        refine ⟨p :: t, ⟨qs, rfl, ?_, ?_⟩, rfl⟩
        · refine ⟨?_, fun x hx => ?_, fun x hx => ?_⟩
          · have k := e2.dec
            rw [List.pairwise_append] at k ⊢
            refine ⟨k.1, t1.dec, fun a ha b hb => k.2.2 a ha b ?_⟩
            rcases List.mem_cons.mp hb with q | q
            · rw [q]; simp
            · have := t3 b q; simp [this]
          · rcases List.mem_append.mp hx with q | q
            · exact e2.low x (List.mem_append_left _ q)
            · exact t1.low x q
          · rcases List.mem_append.mp hx with q | q
            · exact e2.high x (List.mem_append_left _ q)
            · exact t1.high x q
        · rw [← e3]; show _ = joinF oc (settle oc (p :: st)) qs; rw [← t2, e]
      refine Ts_boolop (TsA_and (Ts_cmp (Ev_len ok (by rfl) (by rfl) (by rfl) (Ev_name_mu (by rfl) (by rfl) (len_l (ds := (p :: t).reverse.map D.int) (by rfl) (by rw [List.length_map, List.length_reverse]; lia) (Ev_int (gt_i ?_))))) (by rfl)))
      rw [List.length_map, List.length_reverse]
      refine And.intro (fun c => ?_) (fun c => And.intro (fun t => nomatch t) (fun _ => ?_))
      · have hc := of_decide_eq_true c
        match t, hc, t1, t2, t3, htm, stop with
        | m :: b :: r, hc, t1, t2, t3, htm, stop =>
          have o1 : b < m ∧ m < p := by
            have := t1.dec
            simp only [List.pairwise_cons, List.mem_cons] at this
            exact ⟨this.2.1 b (.inl rfl), this.1 m (.inl rfl)⟩
          have l1 := t1.low b (by simp)
          have l2 := t1.high p (by simp)
          have hrev : (p :: m :: b :: r).reverse.map D.int = r.reverse.map D.int ++ [D.int b, D.int m, D.int p] := by simp
          have hn : (r.reverse.map D.int).length = r.length := by simp
          obtain ⟨b', rfl⟩ := Int.eq_ofNat_of_zero_le l1
          obtain ⟨m', rfl⟩ := Int.eq_ofNat_of_zero_le (show 0 ≤ m by lia)
          obtain ⟨p', rfl⟩ := Int.eq_ofNat_of_zero_le (show 0 ≤ p by (clear l1; lia))
          have ln : ((p' : Int) :: (m' : Int) :: (b' : Int) :: r).reverse.map D.int = r.reverse.map D.int ++ [D.int b', D.int m', D.int p'] := hrev
          have lenN : (((p' : Int) :: (m' : Int) :: (b' : Int) :: r).reverse.map D.int).length = r.length + 3 := by simp
          have gb : (((p' : Int) :: (m' : Int) :: (b' : Int) :: r).reverse.map D.int)[(-3 + ((((p' : Int) :: (m' : Int) :: (b' : Int) :: r).reverse.map D.int).length : Int)).toNat]? = some (D.int b') := by
            rw [lenN, show (-3 + ((r.length + 3 : Nat) : Int)).toNat = r.length by lia, ln, List.getElem?_append_right (by lia), hn]; simp
          have gm : (((p' : Int) :: (m' : Int) :: (b' : Int) :: r).reverse.map D.int)[(-2 + ((((p' : Int) :: (m' : Int) :: (b' : Int) :: r).reverse.map D.int).length : Int)).toNat]? = some (D.int m') := by
            rw [lenN, show (-2 + ((r.length + 3 : Nat) : Int)).toNat = r.length + 1 by lia, ln, List.getElem?_append_right (by lia), hn]; simp
          have lsm : (((p' : Int) :: (m' : Int) :: (b' : Int) :: r).reverse.map D.int).length ≤ 2000 := by
            rw [lenN]; simp at htm; lia
          refine TsA_and (Ts_val ?_ (fun _ _ => rfl))
          refine Ev_fun (f := 347) (n := n + 1) ok (by rfl) (by rfl) (by rfl) (by rfl) (Nat.le_refl _) (by rfl) ?_
          refine EvD_cons (Ev_name (by rfl) (by rfl) ?_) (by rfl)
          refine EvD_cons (Ev_sub (Ev_name_mu (by rfl) (by rfl) ?_) (by rfl)) (by rfl)
          refine Ev_un (Ev_int (neg_i ⟨rfl, item_ln (d := .int b') (by rfl) (by decide) (by rw [lenN]; assumption) (by (clear lenN; lia)) gb ?_⟩))
          refine EvD_cons (Ev_sub (Ev_name_mu (by rfl) (by rfl) ?_) (by rfl)) (by rfl)
          refine Ev_un (Ev_int (neg_i ⟨rfl, item_ln (d := .int m') (by rfl) (by decide) (by rw [lenN]; lia) (by (clear lenN; lia)) gm ?_⟩))
          refine EvD_cons (Ev_sub (Ev_name_mu (by rfl) (by rfl) ?_) (by rfl)) (by rfl)
          refine Ev_un (Ev_int (neg_i ⟨rfl, item_ln (d := .int m') (by rfl) (by decide) (by rw [lenN]; lia) (by (clear lenN; lia)) gm ?_⟩))
          refine EvD_cons (Ev_name (by rfl) (by rfl) ?_) (by rfl)
          refine EvD_nil ?_
          refine less_ok ok hz (by (clear l1; lia)) (by (clear t3; lia)) (by (clear t3; lia)) (by lia) ?_
          have st : settle oc ((p' : Int) :: (m' : Int) :: (b' : Int) :: r) = if lessB oc b' m' m' p' then settle oc ((p' : Int) :: (b' : Int) :: r) else (p' : Int) :: (m' : Int) :: (b' : Int) :: r := by
            rw [settle]; simp only [Int.toNat_natCast]
          refine And.intro (fun u => TsA_and_nil (And.intro (fun _ => ?_) (fun t => nomatch t))) (fun u => And.intro (fun t => nomatch t) (fun _ => ?_))
          · rw [if_pos u] at st
            refine Ex_cons (Ex1_assign_mu (Ev_bin (Ev_slice (Ev_name_mu (by rfl) (by rfl) ?_))) (by rfl) (by rfl))
            refine EvP_none (EvP_some (Ev_un (Ev_int (neg_i ?_))))
            refine And.intro (by (clear lenN; lia)) ?_
            refine Ev_list (EvD_cons (Ev_name (by rfl) (by rfl) ?_) (by rfl))
            refine EvD_nil ⟨by simp, ?_⟩
            have hcut : cut none (some (-2)) (((p' : Int) :: (m' : Int) :: (b' : Int) :: r).reverse.map D.int) = r.reverse.map D.int ++ [D.int b'] := by
              rw [show (-2 : Int) = -((2 : Nat) : Int) from rfl, cut_neg (by decide) (by rw [lenN]; lia), lenN, ln, show r.length + 3 - 2 = (r.reverse.map D.int).length + 1 by simp, List.take_length_add_append]; simp
            refine add_l (d1 := r.reverse.map D.int ++ [D.int b']) (d2 := [D.int p']) (by rw [← hcut]; rfl) (by rfl) (by simp at htm ⊢; lia) ?_
            have hg2 : Good oc.length ((p' : Int) :: (b' : Int) :: r) := by
              obtain ⟨k1, k2, k3⟩ := t1
              refine ⟨?_, fun x hx => k2 x ?_, fun x hx => k3 x ?_⟩
              · simp only [List.pairwise_cons, List.mem_cons] at k1 ⊢
                exact ⟨fun a ha => k1.1 a (.inr ha), k1.2.2⟩
              · simp only [List.mem_cons] at hx ⊢; rcases hx with h | h | h <;> simp [h]
              · simp only [List.mem_cons] at hx ⊢; rcases hx with h | h | h <;> simp [h]
            refine Ex_nil (fin2 _ _ ⟨(b' : Int) :: r, by simp, ⟨hg2, st ▸ t2, fun x hx => t3 x (List.mem_cons_of_mem _ hx)⟩, SubV.cons ?_ (SubV.all (by rfl)), rfl⟩)
            have : ((p' : Int) :: (b' : Int) :: r).reverse.map D.int = r.reverse.map D.int ++ [D.int b'] ++ [D.int p'] := by simp
            rw [this]; rfl
          · rw [if_neg (by rw [u]; decide)] at st
            obtain ⟨a', ha, rfl⟩ := stop st
            exact Ex_nil (Ex_nil (fin _ _ ⟨_, ha, SubV.all (by rfl), rfl⟩))
      · have hc := of_decide_eq_false c
        obtain ⟨a', ha, rfl⟩ := stop (by
          match t, hc with
          | [], _ => unfold settle; rfl
          | [a], _ => unfold settle; rfl
          | a :: b :: r, hc => simp at hc; lia)
        exact Ex_nil (Ex_nil (fin _ _ ⟨p :: t, ha, SubV.all (by rfl), rfl⟩))
  · intro st ⟨qs, e1, e2, e3⟩
    cases qs with
    | cons q qs => cases e1
    | nil =>
      have e4 : st = joinF oc [] ps := e3
      refine Ex_nil (Ex_cons (Ex1_ret (Ev_name_mu (by rfl) (by rfl) ?_)))
      rw [e4]; exact h
end
section
set_option maxRecDepth 100000
set_option maxHeartbeats 8000000
set_option linter.unusedVariables false
theorem D_own {C : Cx} (ok : C.Ok) : DefAt C 402 ["text"] (bodyAt C.K 402) (scAt C.K 402) := by
  refine DefAt.of ok (by rfl) fun fd e vs hl s X => bindsN X fun S => ?_
  cases e
  obtain ⟨a, rfl⟩ := len1 hl
  rfl
/-- Duval's three loops -/
noncomputable def dIn (oc : List Int) (b : Nat) : Nat → Nat → Nat → Nat × Nat
  | 0, k, a => (k, a)
  | j + 1, k, a => if a < oc.length ∧ oc.getD k 0 ≤ oc.getD a 0 then dIn oc b j (if oc.getD k 0 < oc.getD a 0 then b else k + 1) (a + 1) else (k, a)
noncomputable def dEm (s k : Nat) : Nat → Nat → List Int → Nat × List Int
  | 0, b, f => (b, f)
  | j + 1, b, f => if b ≤ k then dEm s k j (b + s) (f ++ [((b + s : Nat) : Int)]) else (b, f)
noncomputable def dGo (oc : List Int) : Nat → Nat → List Int → List Int
  | 0, _, f => f
  | j + 1, b, f => if b < oc.length then
      let ka := dIn oc b oc.length b (b + 1)
      let bf := dEm (ka.2 - ka.1) ka.1 (oc.length + 1) b f
      dGo oc j bf.1 bf.2
    else f
noncomputable def duval (oc : List Int) : List Int := dGo oc oc.length 0 [0]
theorem own_ok {C : Cx} (ok : C.Ok) {n : Nat} {oc : List Int} {bs : BS} {Q : BS → R → Prop}
    (hz : oc.length ≤ 1000) (h : Q bs (.own ((duval oc).map D.int))) : Fn C (n + 1) (.ref 402) [.bytes oc] bs Q := by
  refine Fn_def ok (D_own ok) rfl (by rfl) ?_
  refine Ex_cons (Ex1_assign_tup (xs := ["size", "begin", "found"]) (by rfl) (by first | (left; rfl) | (right; rfl)) (by rfl) (by decide) ?_)
  refine EvL_cons (Ev_len ok (by rfl) (by rfl) (by rfl) (Ev_name (by rfl) (by rfl) (len_by (by lia) ?_))) (by rfl)
  refine EvL_cons (Ev_int ?_) (by rfl)
  refine EvL_cons (Ev_list (EvD_cons (Ev_int ?_) (by rfl))) (by rfl)
  refine EvD_nil ⟨by simp, ?_⟩
  refine EvL_nil ⟨_, rfl, by simp, ?_⟩
  generalize hN : oc.length = N at *
  refine Ex_cons (Ex1_whileS (α := Nat × List Int) (fun s => s.1 ≤ N ∧ s.2.length ≤ s.1 + 1 ∧ ∃ j, N - s.1 ≤ j ∧ dGo oc j s.1 s.2 = duval oc) (fun s => [("size", .val (.int N)), ("begin", .val (.int s.1)), ("found", .mu (s.2.map D.int)), ("text", .val (.bytes oc))]) (fun _ => bs) (fun s => N - s.1)
    ⟨(0, [0]), ⟨Nat.zero_le _, by simp, N, by simp, by rw [duval, hN]⟩, SubV.all (by rfl), rfl⟩ fun ⟨b, f⟩ ⟨p1, p2, p3⟩ I fin => ?_)
  dsimp only at p1 p2 p3 ⊢
  obtain ⟨j, j1, j2⟩ := p3
  refine Ts_cmp (Ev_name (by rfl) (by rfl) ?_) (by rfl)
  repeat (walk_at "mine")
  refine And.intro (fun t => ?_) (fun t => ?_)
  · have hb := of_decide_eq_true t
    have hbN : b < N := by (clear hN p2 j1; omega)
    obtain ⟨j', rfl⟩ : ∃ j', j = j' + 1 := ⟨j - 1, by (clear hz t; lia)⟩
    rw [dGo, if_pos (by (clear hz t; lia))] at j2
    dsimp only at j2
    rw [hN] at j2
    refine Ex_cons (Ex1_assign_tup (xs := ["back", "ahead"]) (by rfl) (by first | (left; rfl) | (right; rfl)) (by rfl) (by decide) ?_)
    repeat (walk_at "mine")
    refine ⟨_, rfl, by simp, ?_⟩
    generalize hka : dIn oc b N b (b + 1) = ka at j2
    refine Ex_cons (Ex1_whileS (α := Nat × Nat) (fun s => b ≤ s.1 ∧ s.1 < s.2 ∧ s.2 ≤ N ∧ ∃ i, N - s.2 ≤ i ∧ dIn oc b i s.1 s.2 = ka) (fun s => [("back", .val (.int s.1)), ("ahead", .val (.int s.2)), ("size", .val (.int N)), ("begin", .val (.int b)), ("found", .mu (f.map D.int)), ("text", .val (.bytes oc))]) (fun _ => bs) (fun s => N - s.2)
      ⟨(b, b + 1), ⟨Nat.le_refl _, Nat.lt_succ_self _, hbN, N, by simp, hka⟩, SubV.all (by rfl), rfl⟩ fun ⟨k, a⟩ ⟨q1, q2, q3, q4⟩ I2 fin2 => ?_)
    dsimp only at q1 q2 q3 q4 ⊢
    obtain ⟨i, i1, i2⟩ := q4
    -- behind the inner loop
    have out : (¬ (a < N ∧ oc.getD k 0 ≤ oc.getD a 0)) → ka = (k, a) := fun c => by
      rw [← i2]
      cases i with
      | zero => rfl
      | succ i => rw [dIn, if_neg (by rw [hN]; exact c)]
    refine Ts.mono (Q := fun b' c => b' = bs ∧ (c = true ↔ (a < N ∧ oc.getD k 0 ≤ oc.getD a 0))) ?_ (fun b' c hc => ?_)
    · refine Ts_boolop (TsA_and (Ts_cmp (Ev_name (by rfl) (by rfl) ?_) (by rfl)))
      repeat (walk_at "mine")
      refine And.intro (fun t => ?_) (fun t => ?_)
      · have l1 := of_decide_eq_true t
        have g1 : k < oc.length := by (clear t; lia)
        have g2 : a < oc.length := by (clear t; lia)
        refine TsA_and (Ts_cmp (Ev_sub (Ev_name (by rfl) (by rfl) ?_) (by rfl)) (by rfl))
        refine Ev_name (by rfl) (by rfl) ⟨rfl, item_by (c := oc[k]) (by lia) (by lia) (by rw [Int.toNat_natCast]; simp [g1]) ?_⟩
        refine Ev_sub (Ev_name (by rfl) (by rfl) ?_) (by rfl)
        refine Ev_name (by rfl) (by rfl) ⟨rfl, item_by (c := oc[a]) (by lia) (by lia) (by rw [Int.toNat_natCast]; simp [g2]) ?_⟩
        refine le_i ?_
        have e : (a < N ∧ oc.getD k 0 ≤ oc.getD a 0) ↔ oc[k] ≤ oc[a] := by
          simp only [List.getD_eq_getElem?_getD, List.getElem?_eq_getElem g1, List.getElem?_eq_getElem g2, Option.getD_some]
          exact ⟨fun x => x.2, fun x => ⟨by (clear t; lia), x⟩⟩
        refine And.intro (fun t2 => TsA_and_nil ⟨rfl, ?_⟩) (fun t2 => ⟨rfl, ?_⟩)
        · rw [e]; exact ⟨fun _ => of_decide_eq_true t2, fun _ => rfl⟩
        · rw [e]; exact ⟨fun x => (nomatch x), fun x => absurd x (of_decide_eq_false t2)⟩
      · have l1 := of_decide_eq_false t
        exact ⟨rfl, fun x => (nomatch x), fun x => absurd x.1 (by (clear t x; lia))⟩
    obtain ⟨rfl, hc⟩ := hc
    refine And.intro (fun t => ?_) (fun t => ?_)
    · obtain ⟨c1, c2⟩ := hc.mp t
      have g1 : k < oc.length := by (clear t; lia)
      have g2 : a < oc.length := by (clear t; lia)
      obtain ⟨i', rfl⟩ : ∃ i', i = i' + 1 := ⟨i - 1, by (clear out t; lia)⟩
      rw [dIn, if_pos (by rw [hN]; exact ⟨c1, c2⟩)] at i2
      have e : (oc.getD k 0 < oc.getD a 0) ↔ oc[k] < oc[a] := by
        simp only [List.getD_eq_getElem?_getD, List.getElem?_eq_getElem g1, List.getElem?_eq_getElem g2, Option.getD_some]
      refine Ex_cons (Ex1_assign (Ev_if (Ts_cmp (Ev_sub (Ev_name (by rfl) (by rfl) ?_) (by rfl)) (by rfl))) (by rfl) (by rfl))
      refine Ev_name (by rfl) (by rfl) ⟨rfl, item_by (c := oc[k]) (by lia) (by lia) (by rw [Int.toNat_natCast]; simp [g1]) ?_⟩
      refine Ev_sub (Ev_name (by rfl) (by rfl) ?_) (by rfl)
      refine Ev_name (by rfl) (by rfl) ⟨rfl, item_by (c := oc[a]) (by (clear i2; lia)) (by lia) (by rw [Int.toNat_natCast]; simp [g2]) ?_⟩
      refine lt_i ?_
      refine And.intro (fun t2 => ?_) (fun t2 => ?_)
      · rw [if_pos (e.mpr (of_decide_eq_true t2))] at i2
        refine Ev_name (by rfl) (by rfl) ?_
        refine Ex_cons (Ex1_assign ?_ (by rfl) (by rfl))
        repeat (walk_at "mine")
        exact fin2 _ _ ⟨(b, a + 1), by show N - (a + 1) < N - a; (clear hN p2 j1 c2 i1 e; omega), ⟨Nat.le_refl _, by show b < a + 1; lia, by show a + 1 ≤ N; assumption, i', by show N - (a + 1) ≤ i'; (clear hN p2 j1 c2 e; omega), i2⟩, (SubV.all (by rfl)), rfl⟩
      · rw [if_neg (fun x => of_decide_eq_false t2 (e.mp x))] at i2
        repeat (walk_at "mine")
        refine Ex1_assign ?_ (by rfl) (by rfl)
        repeat (walk_at "mine")
        exact fin2 _ _ ⟨(k + 1, a + 1), by show N - (a + 1) < N - a; (clear hN p2 j1 c2 i1 e; omega), ⟨by show b ≤ k + 1; lia, by show k + 1 < a + 1; lia, by show a + 1 ≤ N; assumption, i', by show N - (a + 1) ≤ i'; (clear hN p2 j1 c2 e; omega), i2⟩, (SubV.all (by rfl)), rfl⟩
    · have hka2 := out (fun x => by rw [hc.mpr x] at t; cases t)
      rw [hka2] at j2
      dsimp only at j2
      generalize hbf : dEm (a - k) k (N + 1) b f = bf at j2
      refine Ex_nil (Ex_cons (Ex1_whileS (α := Nat × List Int) (fun s => b ≤ s.1 ∧ s.1 ≤ a ∧ s.2.length ≤ s.1 + 1 ∧ ∃ i, k + 1 - s.1 ≤ i ∧ dEm (a - k) k i s.1 s.2 = bf) (fun s => [("begin", .val (.int s.1)), ("found", .mu (s.2.map D.int)), ("back", .val (.int k)), ("ahead", .val (.int a)), ("size", .val (.int N)), ("text", .val (.bytes oc))]) (fun _ => b') (fun s => N + 1 - s.1)
        ⟨(b, f), ⟨Nat.le_refl _, by show b ≤ a; lia, p2, N + 1, by show k + 1 - b ≤ N + 1; (clear hN p2 j1 i1; omega), hbf⟩, (SubV.all (by rfl)), rfl⟩ fun ⟨c, g⟩ ⟨r1, r2, r3, r4⟩ I3 fin3 => ?_))
      dsimp only at r1 r2 r3 r4 ⊢
      obtain ⟨i, i1, i2⟩ := r4
      refine Ts_cmp (Ev_name (by rfl) (by rfl) ?_) (by rfl)
      repeat (walk_at "mine")
      refine And.intro (fun t2 => ?_) (fun t2 => ?_)
      · have l2 := of_decide_eq_true t2
        obtain ⟨i', rfl⟩ : ∃ i', i = i' + 1 := ⟨i - 1, by (clear hbf t2; lia)⟩
        rw [dEm, if_pos (by (clear t2; lia))] at i2
        refine Ex_cons (Ex1_assign ?_ (by rfl) (by rfl))
        repeat (walk_at "mine")
        refine Ex1_append (x := "found") (by rfl) (by rfl) (by rw [List.length_map]; (clear t2; lia)) (by rfl) (Ev_name (by rfl) (by rfl) ?_) (by rfl) (fun env he => by unfold interactive; rw [he]; rfl)
        have e : ((c : Int) + (a : Int) - (k : Int)) = ((c + (a - k) : Nat) : Int) := by (clear hbf; lia)
        rw [e]
        refine Ex_nil (fin3 _ _ ⟨(c + (a - k), g ++ [((c + (a - k) : Nat) : Int)]), by show N + 1 - (c + (a - k)) < N + 1 - c; (clear p2 i1; omega), ⟨by show b ≤ c + (a - k); (clear hbf e; lia), by show c + (a - k) ≤ a; (clear hbf t2; lia), by show (g ++ [_]).length ≤ c + (a - k) + 1; rw [List.length_append]; simp; lia, i', by show k + 1 - (c + (a - k)) ≤ i'; (clear t2; lia), i2⟩, SubV.cons (by rfl) (SubV.cons (by rw [List.map_append]; rfl) (SubV.all (by rfl))), rfl⟩)
      · have l2 := of_decide_eq_false t2
        have e : bf = (c, g) := by
          rw [← i2]
          cases i with
          | zero => rfl
          | succ i => rw [dEm, if_neg (by (clear t2; lia))]
        rw [e] at j2
        exact Ex_nil (Ex_nil (fin _ _ ⟨(c, g), by show N - c < N - b; (clear hN p2 j1 out hc r3 i1; omega), ⟨by show c ≤ N; lia, r3, j', by show N - c ≤ j'; (clear hz hbf t2; lia), j2⟩, SubV.all (by rfl), rfl⟩))
  · have hb := of_decide_eq_false t
    have : f = duval oc := by
      rw [← j2]
      cases j with
      | zero => rfl
      | succ j => rw [dGo, if_neg (by (clear hz t; lia))]
    refine Ex_nil (Ex_cons (Ex1_ret (Ev_name_mu (by rfl) (by rfl) ?_)))
    rw [← this] at h; exact h
end
section
set_option maxRecDepth 100000
set_option maxHeartbeats 8000000
set_option linter.unusedVariables false
theorem D_grown {C : Cx} (ok : C.Ok) : DefAt C 364 ["told", "words"] (bodyAt C.K 364) (scAt C.K 364) := by
  refine DefAt.of ok (by rfl) fun fd e vs hl s X => bindsN X fun S => ?_
  cases e
  obtain ⟨a, b, rfl⟩ := len2 hl
  rfl
theorem D_ways {C : Cx} (ok : C.Ok) : DefAt C 369 ["told", "words"] (bodyAt C.K 369) (scAt C.K 369) := by
  refine DefAt.of ok (by rfl) fun fd e vs hl s X => bindsN X fun S => ?_
  cases e
  obtain ⟨a, b, rfl⟩ := len2 hl
  rfl
noncomputable def midsOf (oc : List Int) (i e : Nat) : List Int := (endsOf oc i).filter fun m => decide (m < (e : Int)) && decide ((e : Int) ∈ endsOf oc m)
noncomputable def risOf (oc : List Int) (i e : Nat) : List Int := (midsOf oc i e).filter fun m => lessB oc i m.toNat m.toNat e
noncomputable def GrownOk (oc : List Int) : Prop := ∀ i e : Nat, i < oc.length → i < e → e ≤ oc.length →
  ((e : Int) ∈ endsOf oc i ↔ (e = i + 1 ∨ risOf oc i e ≠ [])) ∧ ((e : Int) ∈ endsOf oc i → risOf oc i e = midsOf oc i e)
theorem enumD_drop {l : List D} {i : Nat} {x : D} {rest : List D} (h : x :: rest = (enumD l).drop i) : ∃ d, l[i]? = some d ∧ x = .tuple [.int (i : Int), d] ∧ rest = (enumD l).drop (i + 1) := by
  have h0 : (enumD l)[i]? = some x := by
    rw [show i = i + 0 from rfl, ← List.getElem?_drop, ← h]; rfl
  have h1 := h0
  unfold enumD at h1
  rw [List.getElem?_mapIdx] at h1
  obtain ⟨d, hd, e⟩ := Option.map_eq_some_iff.mp h1
  refine ⟨d, hd, e.symm, ?_⟩
  have : (enumD l).drop (i + 1) = ((enumD l).drop i).drop 1 := by rw [List.drop_drop]
  rw [this, ← h]; rfl
theorem okN_all (l : List Int) (n : Nat) : (l.map D.int).all (D.okN n) = true := by
  simp only [List.all_eq_true, List.mem_map]
  rintro d ⟨i, _, rfl⟩
  cases n <;> rfl
theorem mem_ints {i : Int} {l : List Int} : D.int i ∈ l.map D.int ↔ i ∈ l := by
  simp
theorem endsOf_mem {oc : List Int} {b e : Int} (h : e ∈ endsOf oc b) : b + 1 ≤ e ∧ e < b + 1 + (oc.length - b.toNat : Nat) := by
  unfold endsOf at h
  exact mem_upto.mp (List.mem_filter.mp h).1
theorem endsOf_len (oc : List Int) (b : Int) : (endsOf oc b).length ≤ oc.length := by
  have := List.length_filter_le (fun e : Int => wordB oc b.toNat e.toNat) (upto (b + 1) (oc.length - b.toNat))
  rw [upto_length] at this
  unfold endsOf; omega
theorem wordsOf_get {oc : List Int} {i : Nat} (h : i < oc.length) : ((wordsOf oc).map DL)[i]? = some (DL (endsOf oc i)) := by
  rw [List.getElem?_map, wordsOf, List.getElem?_map, upto_get h]; simp
theorem wordsOf_len (oc : List Int) : ((wordsOf oc).map DL).length = oc.length := by simp [wordsOf, upto_length]
theorem grown_ok {C : Cx} (ok : C.Ok) {n : Nat} {oc : List Int} {bs : BS} {Q : BS → R → Prop}
    (hz : oc.length ≤ 1000) (hg : GrownOk oc) (h : Q bs (.val (.bool true))) : Fn C (n + 3) (.ref 364) [tellD oc, .list ((wordsOf oc).map DL)] bs Q := by
  refine Fn_def ok (D_grown ok) rfl (by rfl) ?_
  have hwl := wordsOf_len oc
  refine Ex_cons (Ex1_forS_src (α := Nat) (fun xs i => i ≤ oc.length ∧ xs = (enumD ((wordsOf oc).map DL)).drop i) (fun _ => [("told", .val (tellD oc)), ("words", .val (.list ((wordsOf oc).map DL)))]) (fun _ => bs) ?_ ?_ ?_ (by rfl) (by rfl))
  · refine Src_enum ok (by rfl) (by rfl) (by rfl) (EvD_cons (Ev_name (by rfl) (by rfl) ?_) (by rfl))
    refine EvD_nil ⟨_, rfl, 0, ⟨Nat.zero_le _, rfl⟩, SubV.all (by rfl), rfl⟩
  · intro x rest i ⟨i1, i2⟩ I fin
    obtain ⟨d, hd, rfl, hrest⟩ := enumD_drop i2
    have hi : i < oc.length := by
      have := (List.getElem?_eq_some_iff.mp hd).1
      rw [hwl] at this; exact this
    rw [wordsOf_get hi] at hd
    cases hd
    refine ⟨_, rfl, ?_⟩
    refine Ex_cons (Ex1_forS (α := Nat) (fun xs j => j ≤ oc.length - i ∧ xs = (upto (i + 1 + j) (oc.length - i - j)).map D.int) (fun j => [("told", .val (tellD oc)), ("words", .val (.list ((wordsOf oc).map DL))), ("begin", .val (.int i)), ("ends", .val (DL (endsOf oc i)))]) (fun _ => bs) ?_ ?_ ?_ (by rfl) (by rfl))
    · refine Ev_range ok (by rfl) (by rfl) (by rfl) (EvD_cons (Ev_bin (Ev_name (by rfl) (by rfl) ?_)) (by rfl))
      refine Ev_int (add_i ?_)
      refine EvD_cons (Ev_bin (Ev_len ok (by rfl) (by rfl) (by rfl) (Ev_name (by rfl) (by rfl) (len_l (ds := (wordsOf oc).map DL) (by rfl) (by lia) ?_)))) (by rfl)
      rw [hwl]
      repeat (walk_at "mine")
      refine range_2 ⟨_, 0, ItOk_up (by (clear hi; lia)) (by (clear hi; lia)), ⟨Nat.zero_le _, ?_⟩, SubV.all (by rfl), rfl⟩
      rw [show (((oc.length : Int) + 1) - ((i : Int) + 1)).toNat = oc.length - i - 0 by lia]
      congr 1 <;> omega
    · intro x rest j ⟨j1, j2⟩ I fin
      obtain ⟨hx, hr2, hj⟩ : x = .int ((i + 1 + j : Nat) : Int) ∧ rest = (upto (i + 1 + (j + 1 : Nat)) (oc.length - i - (j + 1))).map D.int ∧ j < oc.length - i := by
        cases q : oc.length - i - j with
        | zero => rw [q] at j2; cases j2
        | succ k =>
          rw [q, upto_succ, List.map_cons] at j2
          cases j2
          refine ⟨by congr 1, ?_, by (clear hwl i1 hi j1; omega)⟩
          rw [show oc.length - i - (j + 1) = k by (clear hwl; omega)]
          congr 2 <;> omega
      subst hx
      generalize he : i + 1 + j = e at *
      obtain ⟨g1, g2⟩ := hg i e hi (by lia) (by (clear hwl i1 hi; omega))
      refine ⟨_, rfl, ?_⟩
      refine Ex_cons (Ex1_assign_compP ((endsOf oc i).map D.int) (gI fun m => if (decide (m < (e : Int)) && decide ((e : Int) ∈ endsOf oc m)) = true then some (.int m) else none) ?_ ⟨fun x hx => ?_, by rfl, by rfl, by rfl, by rfl, by have := endsOf_len oc i; simp; lia⟩ (by rfl) (by rfl))
      · refine Ev_name (by rfl) (by rfl) ⟨ItOk_list, rfl, ?_⟩
        rw [filterMap_gI, filterMap_ite (p := fun m => (decide (m < (e : Int)) && decide ((e : Int) ∈ endsOf oc m)))]
        refine Ex_freeze "middles" (ds := (midsOf oc i e).map D.int) (by rfl) ?_
        have hml : (midsOf oc i e).length ≤ oc.length := Nat.le_trans (List.length_filter_le _ _) (endsOf_len oc i)
        refine Ex_cons (Ex1_assign_compP ((midsOf oc i e).map D.int) (gI fun m => if lessB oc i m.toNat m.toNat e = true then some (.int m) else none) ?_ ⟨fun x hx => ?_, by rfl, by rfl, by rfl, by rfl, by simp; lia⟩ (by rfl) (by rfl))
        · refine Ev_name (by rfl) (by rfl) ⟨ItOk_list, rfl, ?_⟩
          rw [filterMap_gI, filterMap_ite (p := fun m : Int => lessB oc i m.toNat m.toNat e)]
          refine Ex_freeze "rising" (ds := (risOf oc i e).map D.int) (by rfl) ?_
          refine Ex_cut (α := Unit) (fun _ => True) (fun _ => [("rising", .val (.list ((risOf oc i e).map D.int))), ("middles", .val (.list ((midsOf oc i e).map D.int))), ("end", .val (.int e)), ("told", .val (tellD oc)), ("words", .val (.list ((wordsOf oc).map DL))), ("begin", .val (.int i)), ("ends", .val (DL (endsOf oc i)))]) (fun _ => bs) ?_ ?_
          · intro I fin
            refine Ex1_if (Ts_cmp (Ev_cmp ?_ (by rfl)) (by rfl))
            refine Ev_name (by rfl) (by rfl) ?_
            refine Ev_name (by rfl) (by rfl) (in_d (d := .int e) (ds := (endsOf oc i).map D.int) (by rfl) (by rfl) (by rfl) (okN_all _ _) fun t ht => ?_)
            rw [mem_ints] at ht
            have out : ∀ u : Bool, (u = true ↔ (e = i + 1 ∨ risOf oc i e ≠ [])) → (t != u) = false := fun u hu => by
              have : t = u := by
                rw [Bool.eq_iff_iff, ht, hu]; exact g1
              rw [this]; simp
            refine Ev_or (Ev_cmp (Ev_name (by rfl) (by rfl) ?_) (by rfl))
            refine Ev_bin (Ev_name (by rfl) (by rfl) ?_)
            refine Ev_int (add_i (eq_i ?_))
            refine And.intro (fun u1 => ?_) (fun u1 => ?_)
            · refine ne_bb ?_
              have u2 := of_decide_eq_true u1
              rw [out true ⟨fun _ => .inl (by (clear he u1; lia)), fun _ => rfl⟩]
              refine And.intro (fun t => nomatch t) (fun _ => Ex_nil (fin _ _ ⟨(), trivial, SubV.all (by rfl), rfl⟩))
            · have u2 := of_decide_eq_false u1
              refine Ev_cmp (Ev_name (by rfl) (by rfl) ?_) (by rfl)
              refine Ev_list (EvD_nil ⟨by decide, ?_⟩)
              refine ne_d (d := .list ((risOf oc i e).map D.int)) (e := .list (([] : List Int).map D.int)) (by rfl) (by rfl) (okN_ints _ _) (okN_ints _ _) fun u hu => ?_
              rw [Ne, list_int_inj] at hu
              refine ne_bb ?_
              rw [out u ⟨fun q => .inr (hu.mp q), fun q => hu.mpr (q.resolve_left (by (clear he u1; lia)))⟩]
              refine And.intro (fun t => nomatch t) (fun _ => Ex_nil (fin _ _ ⟨(), trivial, SubV.all (by rfl), rfl⟩))
          · intro _ _
            refine Ex_cons (Ex1_if (Ts_boolop (TsA_and (Ts_cmp (Ev_name (by rfl) (by rfl) ?_) (by rfl)))))
            refine Ev_name (by rfl) (by rfl) (in_d (d := .int e) (ds := (endsOf oc i).map D.int) (by rfl) (by rfl) (by rfl) (okN_all _ _) fun t ht => ?_)
            rw [mem_ints] at ht
            refine And.intro (fun t2 => ?_) (fun t2 => And.intro (fun t => nomatch t) (fun _ => ?_))
            · refine TsA_and (Ts_cmp (Ev_name (by rfl) (by rfl) ?_) (by rfl))
              refine Ev_name (by rfl) (by rfl) ?_
              refine ne_d (d := .list ((risOf oc i e).map D.int)) (e := .list ((midsOf oc i e).map D.int)) (by rfl) (by rfl) (okN_ints _ _) (okN_ints _ _) fun u hu => ?_
              rw [Ne, list_int_inj] at hu
              have : u = false := by
                cases u with
                | false => rfl
                | true => exact absurd (g2 (ht.mp t2)) (hu.mp rfl)
              subst this
              refine And.intro (fun t => nomatch t) (fun _ => And.intro (fun t => nomatch t) (fun _ => ?_))
              exact Ex_nil (Ex_nil (fin _ _ ⟨j + 1, ⟨by assumption, hr2⟩, SubV.all (by rfl), rfl⟩))
            · exact Ex_nil (Ex_nil (fin _ _ ⟨j + 1, ⟨by assumption, hr2⟩, SubV.all (by rfl), rfl⟩))
        · obtain ⟨m, hm, rfl⟩ := List.mem_map.mp hx
          obtain ⟨hm1, hm2⟩ := List.mem_filter.mp hm
          have hmr := endsOf_mem hm1
          have hme : m < (e : Int) := by
            rw [Bool.and_eq_true] at hm2
            exact of_decide_eq_true hm2.1
          obtain ⟨m, rfl⟩ := Int.eq_ofNat_of_zero_le (show 0 ≤ m by lia)
          refine ⟨_, rfl, ?_⟩
          refine TsL_cons (Ts_val ?_ (fun _ _ => rfl))
          refine Ev_fun (f := 347) (n := n + 1) ok (by rfl) (by rfl) (by rfl) (by rfl) (by show n + 1 ≤ n + 2; lia) (by rfl) ?_
          repeat (walk_at "mine")
          refine less_ok ok hz (by (clear hwl he hml; omega)) (by (clear hz hwl i1 hi g1 hmr; omega)) (by (clear hi j1 g1 hm2 hmr; lia)) (by (clear hwl i1 hi g1 hml hmr hme; omega)) ?_
          refine And.intro (fun t => TsL_nil (And.intro (fun _ => ?_) (fun t => nomatch t))) (fun t => And.intro (fun t => nomatch t) (fun _ => ?_))
          · refine Ev_name (by rfl) (by rfl) ⟨rfl, ?_⟩
            show (if _ then _ else _) = _
            rw [Int.toNat_natCast, if_pos t]
          · refine ⟨rfl, ?_⟩
            show (if _ then _ else _) = _
            rw [Int.toNat_natCast, if_neg (by rw [t]; decide)]
      · obtain ⟨m, hm, rfl⟩ := List.mem_map.mp hx
        have hmr := endsOf_mem hm
        obtain ⟨m, rfl⟩ := Int.eq_ofNat_of_zero_le (show 0 ≤ m by lia)
        refine ⟨_, rfl, ?_⟩
        refine TsL_cons (Ts_boolop (TsA_and (Ts_cmp (Ev_name (by rfl) (by rfl) ?_) (by rfl))))
        refine Ev_name (by rfl) (by rfl) (lt_i ?_)
        refine And.intro (fun t1 => ?_) (fun t1 => ?_)
        · have l1 := of_decide_eq_true t1
          refine TsA_and (Ts_cmp (Ev_name (by rfl) (by rfl) ?_) (by rfl))
          refine Ev_sub (Ev_name (by rfl) (by rfl) ?_) (by rfl)
          refine Ev_name (by rfl) (by rfl) ⟨rfl, item_l (d := DL (endsOf oc m)) (ds := (wordsOf oc).map DL) (by rfl) (by (clear hmr; lia)) (by omega) (by rw [Int.toNat_natCast]; exact wordsOf_get (by (clear hz hwl i1 hi g1 hmr; omega))) ?_⟩
          refine in_d (d := .int e) (ds := (endsOf oc m).map D.int) (by rfl) (by rfl) (by rfl) (okN_all _ _) fun t ht => ?_
          rw [mem_ints] at ht
          refine And.intro (fun t2 => TsA_and_nil (And.intro (fun _ => TsL_nil (And.intro (fun _ => ?_) (fun t => nomatch t))) (fun t => nomatch t))) (fun t2 => And.intro (fun t => nomatch t) (fun _ => ?_))
          · refine Ev_name (by rfl) (by rfl) ⟨rfl, ?_⟩
            show (if _ then _ else _) = _
            rw [if_pos (by rw [t1, decide_eq_true (ht.mp t2)]; rfl)]
          · refine And.intro (fun t => nomatch t) (fun _ => ⟨rfl, ?_⟩)
            show (if _ then _ else _) = _
            rw [if_neg]
            have q0 : decide ((e : Int) ∈ endsOf oc m) = false := decide_eq_false (fun q => by rw [ht.mpr q] at t2; cases t2)
            rw [q0]; simp
        · refine And.intro (fun t => nomatch t) (fun _ => And.intro (fun t => nomatch t) (fun _ => ⟨rfl, ?_⟩))
          show (if _ then _ else _) = _
          rw [if_neg]
          rw [t1]; simp
    · intro j ⟨j1, j2⟩
      exact Ex_nil (Ex_nil (fin _ _ ⟨i + 1, ⟨hi, hrest⟩, SubV.all (by rfl), rfl⟩))
  · intro i ⟨i1, i2⟩
    exact Ex_nil (Ex_cons (Ex1_ret (Ev_bool h)))
/-- nothing but a one at the end -/
noncomputable def unitL (l : List Int) : List Int := List.replicate (l.length - 1) 0 ++ [1]
noncomputable def restOf (oc : List Int) (b e : Nat) : List Int := (((unitL (endsOf oc e)).zip (endsOf oc e)).filter fun p => !lessB oc b e e p.2.toNat).map (·.1)
noncomputable def WaysOk (oc : List Int) : Prop := ∀ b : Nat, b < oc.length → (endsOf oc b).map (fun e : Int => if e < (oc.length : Int) then (restOf oc b e.toNat).sum else 1) = unitL (endsOf oc b)
noncomputable def waysAt (oc : List Int) (i : Nat) : List D := (List.range oc.length).map fun b => if oc.length - i ≤ b then DL (unitL (endsOf oc (b : Nat))) else DL []
theorem waysAt_step {oc : List Int} {i : Nat} (h : i < oc.length) : (waysAt oc i).set (oc.length - 1 - i) (DL (unitL (endsOf oc ((oc.length - 1 - i : Nat) : Int)))) = waysAt oc (i + 1) := by
  unfold waysAt
  apply List.ext_getElem
  · simp
  · intro k k1 k2
    simp only [List.getElem_set, List.getElem_map, List.getElem_range]
    simp at k2
    split
    · rename_i e; subst e; rw [if_pos (by lia)]
    · split
      · rw [if_pos (by lia)]
      · rw [if_neg (by lia)]
theorem zipD_ints (a b : List Int) : zipD (a.map D.int) (b.map D.int) = (a.zip b).map fun p => .tuple [.int p.1, .int p.2] := by
  unfold zipD
  rw [List.zipWith_map, List.zip_eq_zipWith, List.map_zipWith]
theorem rangeI_down (N : Nat) : rangeI ((N : Int) - 1) (-1) (-1) = (List.range N).map fun (k : Nat) => (N : Int) - 1 - k := by
  unfold rangeI
  have e : (Builtin.Range.rangeSize ((N : Int) - 1) (-1) (-1)).toNat = N := by
    unfold Builtin.Range.rangeSize
    rw [if_neg (by decide)]
    split
    · first | omega | (simp; omega) | simp
    · lia
  rw [e]
  apply List.map_congr_left; intro k _; lia
theorem drop_cons {α : Type} {l rest : List α} {x : α} {i : Nat} (h : x :: rest = l.drop i) : l[i]? = some x ∧ rest = l.drop (i + 1) := by
  constructor
  · rw [show i = i + 0 from rfl, ← List.getElem?_drop, ← h]; rfl
  · rw [show l.drop (i + 1) = (l.drop i).drop 1 by rw [List.drop_drop], ← h]; rfl
noncomputable def gP (f : Int → Int → Option D) : D → Option D
  | .tuple [.int a, .int b] => f a b
  | _ => none
theorem rest_eq (oc : List Int) (b e : Nat) : (zipD ((unitL (endsOf oc e)).map D.int) ((endsOf oc e).map D.int)).filterMap (gP fun a s => if (!lessB oc b e e s.toNat) = true then some (.int a) else none) = (restOf oc b e).map D.int := by
  rw [zipD_ints, List.filterMap_map, restOf, List.map_map]
  generalize (unitL (endsOf oc e)).zip (endsOf oc e) = l
  induction l with
  | nil => rfl
  | cons p l ih =>
    rw [List.filterMap_cons, List.filter_cons]
    cases h : lessB oc b e e p.2.toNat with
    | true =>
      have e1 : ((gP fun a s => if (!lessB oc b e e s.toNat) = true then some (.int a) else none) ∘ fun p : Int × Int => D.tuple [.int p.1, .int p.2]) p = none := by
        show (if _ then _ else _) = _
        rw [h]; rfl
      rw [e1]; simpa using ih
    | false =>
      have e1 : ((gP fun a s => if (!lessB oc b e e s.toNat) = true then some (.int a) else none) ∘ fun p : Int × Int => D.tuple [.int p.1, .int p.2]) p = some (.int p.1) := by
        show (if _ then _ else _) = _
        rw [h]; rfl
      rw [e1]; simpa using ih
theorem ways_ok {C : Cx} (ok : C.Ok) {n : Nat} {oc : List Int} {bs : BS} {Q : BS → R → Prop}
    (hz : oc.length ≤ 1000) (hw : WaysOk oc) (h : Q bs (.own ((wordsOf oc).map fun l => DL (unitL l)))) : Fn C (n + 3) (.ref 369) [tellD oc, .list ((wordsOf oc).map DL)] bs Q := by
  refine Fn_def ok (D_ways ok) rfl (by rfl) ?_
  have hwl := wordsOf_len oc
  refine Ex_cons (Ex1_assign (Ev_len ok (by rfl) (by rfl) (by rfl) (Ev_name (by rfl) (by rfl) (len_l (ds := (wordsOf oc).map DL) (by rfl) (by lia) ?_))) (by rfl) (by rfl))
  rw [hwl]
  refine Ex_cons (Ex1_assign_compR 0 oc.length (fun _ => some (DL [])) (by decide) (by lia) ?_ (fun p hp0 hp1 => ?_) (by rfl) (by rfl) (by rfl) (by rfl) (by rfl) (by rfl))
  · repeat (walk_at "mine")
    refine range_1 ⟨⟨_, rfl, by lia, by lia, by lia⟩, rfl, ?_⟩
    have e0 : (upto 0 oc.length).filterMap (fun _ => some (DL [])) = waysAt oc 0 := by
      rw [show (fun _ : Int => some (DL [])) = some ∘ (fun _ => DL []) from rfl, List.filterMap_eq_map]
      unfold upto waysAt
      rw [List.map_map]
      apply List.map_congr_left
      intro b hb
      rw [if_neg (by have := List.mem_range.mp hb; lia)]; rfl
    rw [e0]
    refine Ex_cons (Ex1_forS (α := Nat) (fun xs i => i ≤ oc.length ∧ xs = ((rangeI ((oc.length : Int) - 1) (-1) (-1)).map D.int).drop i) (fun i => [("found", .mu (waysAt oc i)), ("size", .val (.int oc.length)), ("told", .val (tellD oc)), ("words", .val (.list ((wordsOf oc).map DL)))]) (fun _ => bs) ?_ ?_ ?_ (by rfl) (by rfl))
    · refine Ev_range ok (by rfl) (by rfl) (by rfl) (EvD_cons (Ev_bin (Ev_name (by rfl) (by rfl) ?_)) (by rfl))
      refine Ev_int (sub_i (EvD_cons (Ev_un (Ev_int (neg_i ?_))) (by rfl)))
      refine EvD_cons (Ev_un (Ev_int (neg_i ?_))) (by rfl)
      refine EvD_nil (range_3 (by decide) (by decide) ?_)
      exact ⟨_, 0, ItOk_range (by lia) (by decide) (by decide) (by decide), ⟨Nat.zero_le _, rfl⟩, SubV.all (by rfl), rfl⟩
    · intro x rest i ⟨i1, i2⟩ I fin
      obtain ⟨hx, hrest⟩ := drop_cons i2
      rw [rangeI_down, List.map_map, List.getElem?_map] at hx
      obtain ⟨k, hk, hx⟩ := Option.map_eq_some_iff.mp hx
      have hi : i < oc.length := by
        have := (List.getElem?_eq_some_iff.mp hk).1; simpa using this
      rw [List.getElem?_range hi] at hk
      cases hk
      have hx : x = .int ((oc.length - 1 - i : Nat) : Int) := by
        rw [← hx]; show D.int ((oc.length : Int) - 1 - (i : Int)) = _; congr 1; (clear hwl; omega)
      subst hx
      have hwb := hw (oc.length - 1 - i) (by (clear hwl; omega))
      have hst := waysAt_step hi
      have hlt : oc.length - 1 - i < oc.length := by (clear hwl; omega)
      have hge : oc.length - i = (oc.length - 1 - i) + 1 := by lia
      generalize hb : oc.length - 1 - i = b at *
      refine ⟨_, rfl, ?_⟩
      refine Ex_cons (Ex1_assign_mu (Ev_list (EvD_nil ⟨by decide, ?_⟩)) (by rfl) (by rfl))
      refine Ex_cons (Ex1_forS (α := Nat) (fun xs j => j ≤ (endsOf oc b).length ∧ xs = ((endsOf oc b).map D.int).drop j) (fun j => [("row", .mu ((((endsOf oc b).map (fun e : Int => if e < (oc.length : Int) then (restOf oc b e.toNat).sum else 1)).take j).map D.int)), ("begin", .val (.int b)), ("found", .mu (waysAt oc i)), ("size", .val (.int oc.length)), ("told", .val (tellD oc)), ("words", .val (.list ((wordsOf oc).map DL)))]) (fun _ => bs) ?_ ?_ ?_ (by rfl) (by rfl))
      · refine Ev_sub (Ev_name (by rfl) (by rfl) ?_) (by rfl)
        refine Ev_name (by rfl) (by rfl) ⟨rfl, item_l (d := DL (endsOf oc b)) (ds := (wordsOf oc).map DL) (by rfl) (by (clear hb hx; lia)) (by (clear hb hx; lia)) (by rw [Int.toNat_natCast]; exact wordsOf_get hlt) ?_⟩
        refine ⟨_, 0, ItOk_list, ⟨Nat.zero_le _, rfl⟩, SubV.all (by rfl), rfl⟩
      · intro x rest2 j ⟨j1, j2⟩ I fin
        obtain ⟨hx, hrest2⟩ := drop_cons j2
        rw [List.getElem?_map] at hx
        obtain ⟨e, he, rfl⟩ := Option.map_eq_some_iff.mp hx
        have hj : j < (endsOf oc b).length := (List.getElem?_eq_some_iff.mp he).1
        have hem := endsOf_mem (List.mem_of_getElem? he)
        obtain ⟨e, rfl⟩ := Int.eq_ofNat_of_zero_le (show 0 ≤ e by (clear hwl hb hlt hge; omega))
        have hlen := endsOf_len oc b
        have next : ∀ v : Int, v = (if (e : Int) < (oc.length : Int) then (restOf oc b (e : Int).toNat).sum else 1) →
            (((endsOf oc b).map (fun e : Int => if e < (oc.length : Int) then (restOf oc b e.toNat).sum else 1)).take j).map D.int ++ [D.int v] = (((endsOf oc b).map (fun e : Int => if e < (oc.length : Int) then (restOf oc b e.toNat).sum else 1)).take (j + 1)).map D.int := fun v hv => by
          rw [List.take_add_one, List.map_append, List.getElem?_map, he, hv]; rfl
        refine ⟨_, rfl, ?_⟩
        refine Ex_cons (Ex1_assign_mu (Ev_list (EvD_cons (Ev_int ?_) (by rfl))) (by rfl) (by rfl))
        refine EvD_nil ⟨by decide, ?_⟩
        refine Ex_cut (α := Int × List Int) (fun s => s.1 = (if (e : Int) < (oc.length : Int) then (restOf oc b (e : Int).toNat).sum else 1) ∧ s.1 = s.2.sum) (fun s => [("rest", .mu (s.2.map D.int)), ("end", .val (.int e)), ("row", .mu ((((endsOf oc b).map (fun e : Int => if e < (oc.length : Int) then (restOf oc b e.toNat).sum else 1)).take j).map D.int)), ("begin", .val (.int b)), ("found", .mu (waysAt oc i)), ("size", .val (.int oc.length)), ("told", .val (tellD oc)), ("words", .val (.list ((wordsOf oc).map DL)))]) (fun _ => bs) ?_ ?_
        · intro I fin
          refine Ex1_if (Ts_cmp (Ev_name (by rfl) (by rfl) ?_) (by rfl))
          refine Ev_name (by rfl) (by rfl) (lt_i ?_)
          refine And.intro (fun t => ?_) (fun t => ?_)
          · have hel := of_decide_eq_true t
            refine Ex_cons (Ex1_assign_compP_src (zipD ((unitL (endsOf oc e)).map D.int) ((endsOf oc e).map D.int)) (gP fun a s => if (!lessB oc b e e s.toNat) = true then some (.int a) else none) ?_ ⟨fun x hx => ?_, by rfl, by rfl, by rfl, by rfl, ?_⟩ (by rfl) (by rfl))
            · refine Src_zip ok (by rfl) (by rfl) (by rfl) (EvD_cons (Ev_sub (Ev_name_mu (by rfl) (by rfl) ?_) (by rfl)) (by rfl))
              refine Ev_name (by rfl) (by rfl) ⟨rfl, item_l (d := DL (unitL (endsOf oc e))) (ds := waysAt oc i) (by rfl) (by (clear hem; lia)) (by omega) ?_ ?_⟩
              · rw [Int.toNat_natCast, waysAt, List.getElem?_map, List.getElem?_range (by (clear t; lia))]
                show some (if _ then _ else _) = _
                rw [if_pos (by (clear hwl hb; omega))]
              refine EvD_cons (Ev_sub (Ev_name (by rfl) (by rfl) ?_) (by rfl)) (by rfl)
              refine Ev_name (by rfl) (by rfl) ⟨rfl, item_l (d := DL (endsOf oc e)) (ds := (wordsOf oc).map DL) (by rfl) (by (clear hem; lia)) (by omega) (by rw [Int.toNat_natCast]; exact wordsOf_get (by (clear t; lia))) ?_⟩
              refine EvD_nil ⟨_, _, rfl, rfl, rfl, ?_⟩
              rw [rest_eq]
              exact Ex_nil (fin _ _ ⟨((restOf oc b e).sum, restOf oc b e), ⟨by rw [if_pos hel, Int.toNat_natCast], rfl⟩, SubV.all (by rfl), rfl⟩)
            · rw [zipD_ints] at hx
              obtain ⟨⟨a, st⟩, hp, rfl⟩ := List.mem_map.mp hx
              have hst2 := endsOf_mem (List.of_mem_zip hp).2
              obtain ⟨st, rfl⟩ := Int.eq_ofNat_of_zero_le (show 0 ≤ st by (clear hem; lia))
              refine ⟨_, rfl, ?_⟩
              refine TsL_cons (Ts_not (Ts_val ?_ (fun _ _ => rfl)))
              refine Ev_fun (f := 347) (n := n + 1) ok (by rfl) (by rfl) (by rfl) (by rfl) (by show n + 1 ≤ n + 2; lia) (by rfl) ?_
              repeat (walk_at "mine")
              refine less_ok ok hz (by (clear hwl hb hge hst2; omega)) (by (clear t; lia)) (by (clear t; lia)) (by (clear hwl hb hge hem; omega)) ?_
              refine And.intro (fun t => TsL_nil (And.intro (fun _ => ?_) (fun t => nomatch t))) (fun t => And.intro (fun t => nomatch t) (fun _ => ?_))
              · refine Ev_name (by rfl) (by rfl) ⟨rfl, ?_⟩
                show (if _ then _ else _) = _
                rw [Int.toNat_natCast, if_pos t]
              · refine ⟨rfl, ?_⟩
                show (if _ then _ else _) = _
                rw [Int.toNat_natCast, if_neg (by rw [t]; decide)]
            · rw [zipD_ints, List.length_map, List.length_zip]
              have := endsOf_len oc e
              lia
          · have hel := of_decide_eq_false t
            exact Ex_nil (fin _ _ ⟨(1, [1]), ⟨by rw [if_neg hel], rfl⟩, SubV.all (by rfl), rfl⟩)
        · intro ⟨v, l⟩ ⟨hv, hl⟩
          dsimp only at hv hl ⊢
          refine Ex_cons (Ex1_append (x := "row") (by rfl) (by rfl) (by simp; (clear hj; lia)) (by rfl) (Ev_sum ok (by rfl) (by rfl) (by rfl) (Ev_name_mu (by rfl) (by rfl) (sum_l (by rfl) ?_))) (by rfl) (fun env he => by unfold interactive; rw [he]; rfl))
          refine Ex_nil (fin _ _ ⟨j + 1, ⟨by assumption, hrest2⟩, SubV.cons ?_ (SubV.all (by rfl)), rfl⟩)
          rw [← next _ (hl ▸ hv)]; rfl
      · intro j ⟨j1, j2⟩
        have hj : (endsOf oc b).length ≤ j := by
          have := congrArg List.length j2
          simp at this; (clear e0; lia)
        refine Ex_nil ?_
        refine Ex_freeze "row" (ds := (((endsOf oc b).map (fun e : Int => if e < (oc.length : Int) then (restOf oc b e.toNat).sum else 1)).take j).map D.int) (by rfl) ?_
        rw [List.take_of_length_le (by simpa using hj), hwb]
        refine Ex_cons (Ex1_setitem (x := "found") (ds := waysAt oc i) (by rfl) (by rfl) (by rfl) (Ev_name (by rfl) (by rfl) ?_))
        refine Ev_name (by rfl) (by rfl) ?_
        refine ⟨by (clear hb hx; lia), by simp [waysAt]; omega, by simp [waysAt]; lia, ?_⟩
        refine Ex_nil (fin _ _ ⟨i + 1, ⟨hi, hrest⟩, SubV.cons ?_ (SubV.all (by rfl)), rfl⟩)
        rw [← hst, Int.toNat_natCast]; rfl
    · intro i ⟨i1, i2⟩
      have hi : oc.length ≤ i := by
        have := congrArg List.length i2
        rw [rangeI_down] at this
        simp at this; (clear e0; lia)
      refine Ex_nil (Ex_cons (Ex1_ret (Ev_name_mu (by rfl) (by rfl) ?_)))
      have e : waysAt oc i = (wordsOf oc).map fun l => DL (unitL l) := by
        unfold waysAt wordsOf upto
        rw [List.map_map, List.map_map]
        apply List.map_congr_left
        intro b _
        rw [if_pos (by lia)]
        simp
      rw [e]; exact h
  · refine TsL_nil (And.intro (fun _ => ?_) (fun t => nomatch t))
    exact Ev_list (EvD_nil ⟨by decide, rfl, rfl⟩)
end
section
set_option maxRecDepth 100000
set_option maxHeartbeats 8000000
set_option linter.unusedVariables false
theorem D_law {C : Cx} (ok : C.Ok) : DefAt C 407 ["script"] (bodyAt C.K 407) (scAt C.K 407) := by
  refine DefAt.of ok (by rfl) fun fd e vs hl s X => bindsN X fun S => ?_
  cases e
  obtain ⟨a, rfl⟩ := len1 hl
  rfl
noncomputable def lastI (l : List Int) : Int := l.getLastD 0
structure Math03 (oc : List Int) : Prop where
  grown : GrownOk oc
  ways : WaysOk oc
  ne : ∀ b : Nat, b < oc.length → endsOf oc b ≠ []
  next : ∀ b : Nat, b < oc.length → lastI (endsOf oc b) = nextN oc b
  row : rowN oc 0 oc.length = duval oc
  long : (rowN oc 0 oc.length).drop 1 = (rowN oc 0 oc.length).dropLast.map fun b => lastI (endsOf oc b)
  runs : ∀ w : Nat, oc.length ≤ w → runsB oc w (rowN oc 0 oc.length) = true
  joined : ∀ c : Nat, 1 ≤ c → c < oc.length → (joinF oc [] (rowN oc 0 c ++ (rowN oc c oc.length).drop 1)).reverse = rowN oc 0 oc.length
theorem okN_lists (l : List (List Int)) (n : Nat) : (D.list (l.map DL)).okN (n + 2) = true := by
  simp only [D.okN, List.all_eq_true, List.mem_map]
  rintro d ⟨i, _, rfl⟩
  exact okN_ints i n
noncomputable def gU : D → Option D
  | .list ds => some (.list (rep [.int 0] (((ds.length : Nat) : Int) - 1).toNat ++ [.int 1]))
  | _ => none
noncomputable def gLast : D → Option D
  | .list ds => some (ds.getLastD .none)
  | _ => none
theorem rep_one {α : Type} (x : α) : ∀ n, rep [x] n = List.replicate n x
  | 0 => rfl
  | n + 1 => by rw [List.replicate_succ, ← rep_one x n]; rfl
theorem gU_DL (l : List Int) : gU (DL l) = some (DL (unitL l)) := by
  show some _ = some (D.list _)
  rw [rep_one, unitL, List.map_append, List.map_replicate, List.length_map, show ((l.length : Int) - 1).toNat = l.length - 1 by lia]; rfl
theorem gU_words (oc : List Int) : ((wordsOf oc).map DL).filterMap gU = (wordsOf oc).map fun l => DL (unitL l) := by
  rw [List.filterMap_map, ← List.filterMap_eq_map]
  congr 1; funext l; exact gU_DL l
theorem gLast_DL {l : List Int} (h : l ≠ []) : gLast (DL l) = some (.int (lastI l)) := by
  show some ((l.map D.int).getLastD .none) = _
  rw [lastI, List.getLastD_eq_getLast?, List.getLastD_eq_getLast?, List.getLast?_map]
  cases e : l.getLast? with
  | none => exact absurd (List.getLast?_eq_none_iff.mp e) h
  | some x => rfl
theorem gLast_words {oc : List Int} (h : ∀ b : Nat, b < oc.length → endsOf oc b ≠ []) : ((wordsOf oc).map DL).filterMap gLast = ((wordsOf oc).map lastI).map D.int := by
  have : ∀ L : List (List Int), (∀ l ∈ L, l ≠ []) → (L.map DL).filterMap gLast = (L.map lastI).map D.int := by
    intro L
    induction L with
    | nil => intro _; rfl
    | cons l L ih =>
      intro hL
      rw [List.map_cons, List.filterMap_cons_some (gLast_DL (hL l List.mem_cons_self)), ih fun x hx => hL x (List.mem_cons_of_mem _ hx)]; rfl
  refine this _ fun l hl => ?_
  unfold wordsOf at hl
  obtain ⟨b, hb, rfl⟩ := List.mem_map.mp hl
  obtain ⟨h1, h2⟩ := mem_upto.mp hb
  obtain ⟨b, rfl⟩ := Int.eq_ofNat_of_zero_le h1
  exact h b (by lia)
theorem longs_eq {oc : List Int} (h : ∀ b : Nat, b < oc.length → lastI (endsOf oc b) = nextN oc b) : (wordsOf oc).map lastI = (upto 0 oc.length).map fun b => (nextN oc b.toNat : Int) := by
  unfold wordsOf
  rw [List.map_map]
  apply List.map_congr_left
  intro b hb
  obtain ⟨h1, h2⟩ := mem_upto.mp hb
  obtain ⟨b, rfl⟩ := Int.eq_ofNat_of_zero_le h1
  exact h b (by lia)
theorem upto_lt (a : Int) (n : Nat) : (upto a n).Pairwise (· < ·) := by
  unfold upto
  rw [List.pairwise_map]
  exact List.pairwise_lt_range.imp fun h => by lia
theorem rowN_mem {oc : List Int} {b e : Nat} {x : Int} (h : x ∈ rowN oc b e) (hbe : b ≤ e) : (b : Int) ≤ x ∧ x ≤ e := by
  unfold rowN at h
  rcases List.mem_append.mp h with h | h
  · have := mem_upto.mp (List.mem_filter.mp h).1; (clear hbe; omega)
  · have := List.mem_singleton.mp h; lia
theorem rowN_lt (oc : List Int) (b e : Nat) (hbe : b ≤ e) : (rowN oc b e).Pairwise (· < ·) := by
  unfold rowN
  rw [List.pairwise_append]
  refine ⟨(upto_lt _ _).filter _, by simp, fun x hx y hy => ?_⟩
  have := mem_upto.mp (List.mem_filter.mp hx).1
  have := List.mem_singleton.mp hy; (clear hbe; omega)
theorem rowN_drop {oc : List Int} {b e : Nat} (hbe : b < e) : rowN oc b e = (b : Int) :: (rowN oc b e).drop 1 := by
  unfold rowN
  have h0 : lowB oc b e b = true := by unfold lowB; simp
  rw [show e - b = (e - b - 1) + 1 by lia, upto_succ, List.filter_cons]
  simp only [Int.toNat_natCast, h0, if_true]; rfl
theorem rowN_len (oc : List Int) (b e : Nat) : (rowN oc b e).length ≤ e - b + 1 := by
  unfold rowN
  have := List.length_filter_le (fun p : Int => lowB oc b e p.toNat) (upto b (e - b))
  rw [upto_length] at this
  simp; omega
theorem rowN_init {oc : List Int} {b e : Nat} {x : Int} (h : x ∈ (rowN oc b e).dropLast) : (b : Int) ≤ x ∧ x < b + (e - b : Nat) := by
  unfold rowN at h
  rw [List.dropLast_concat] at h
  exact mem_upto.mp (List.mem_filter.mp h).1
theorem cut_last {α : Type} (l : List α) : cut none (some (-1)) l = l.dropLast := by
  unfold cut
  simp only [Option.elim, List.drop_zero, Nat.sub_zero]
  rw [List.dropLast_eq_take]
  congr 1; unfold clipAt; lia
theorem rowN_good {oc : List Int} {c n : Nat} (h1 : 1 ≤ c) (h2 : c < n) : Good n (rowN oc 0 c ++ (rowN oc c n).drop 1).reverse := by
  have k1 := rowN_lt oc 0 c (Nat.zero_le _)
  have k2 := rowN_lt oc c n (by lia)
  rw [rowN_drop h2, List.pairwise_cons] at k2
  have m1 : ∀ x ∈ rowN oc 0 c, 0 ≤ x ∧ x ≤ c := fun x hx => by have := rowN_mem hx (Nat.zero_le _); omega
  have m2 : ∀ x ∈ (rowN oc c n).drop 1, (c : Int) < x ∧ x ≤ n := fun x hx => ⟨k2.1 x hx, (rowN_mem (List.mem_of_mem_drop hx) (by lia)).2⟩
  refine ⟨?_, fun x hx => ?_, fun x hx => ?_⟩
  · rw [List.pairwise_reverse, List.pairwise_append]
    exact ⟨k1, k2.2, fun x hx y hy => by have := m1 x hx; have := m2 y hy; lia⟩
  · rw [List.mem_reverse, List.mem_append] at hx
    rcases hx with h | h
    · exact (m1 x h).1
    · have := m2 x h; (clear h1; lia)
  · rw [List.mem_reverse, List.mem_append] at hx
    rcases hx with h | h
    · have := m1 x h; lia
    · exact (m2 x h).2
theorem law_ok {C : Cx} (ok : C.Ok) {n : Nat} {ns : List Int} (hβ : ∃ o, C.H.get? C.β = some o)
    (hz : ns.length ≤ 1000) (hm : ∀ oc : List Int, 2 ≤ oc.length → oc.length ≤ 12 → Lets oc → Math03 oc) : Fn C (n + 7) (.ref 407) [.list (ns.map D.int)] none (fun _ r => r = .val (.bool true)) := by
  refine Fn_def ok (D_law ok) rfl (by rfl) ?_
  refine Ex_cons (Ex1_assign_mu ?_ (by rfl) (by rfl))
  refine Ev_fun (f := 316) (n := n + 1) ok (by rfl) (by rfl) (by rfl) (by rfl) (by show n + 1 ≤ n + 6; lia) (by rfl) ?_
  refine EvD_cons (Ev_name (by rfl) (by rfl) ?_) (by rfl)
  refine EvD_nil ?_
  refine box_ok ok hz fun d s => ?_
  refine Ex.mono (Q := fun _ _ f => FlatRet (fun d => d = .bool true) f) ?_ (fun v b f hf => ?_)
  rotate_left
  · cases f with
    | ret r =>
      cases r with
      | val d => obtain ⟨_, rfl⟩ := hf; exact rfl
      | _ => exact hf.elim
    | _ => exact hf.elim
  refine Ex_box (x := "box") (a := d) (b := s) (vars' := [("script", .val (.list (ns.map D.int)))]) hβ (by rfl) (SubV.all (by rfl)) (by simp [flatSlot, flat2_ints]) fun β => ?_
  have ok' := ok.at β
  clear ok hβ
  revert ok'
  generalize C.at β = C'
  intro ok'
  refine Ex_cut (α := List Int × Int × Int) (fun s => 2 ≤ s.1.length ∧ s.1.length ≤ 12 ∧ Lets s.1) (fun s => [("text", .val (.bytes s.1)), ("box", .val .box)]) (fun s => some (.two s.2.1 s.2.2)) ?_ fun ⟨oc, a1, b1⟩ ⟨p1, p2, p3⟩ => ?_
  · intro I fin
    refine Ex1_assign ?_ (by rfl) (by rfl)
    refine Ev_fun (f := 335) (n := n + 3) ok' (by rfl) (by rfl) (by rfl) (by rfl) (by show n + 3 ≤ n + 6; lia) (by rfl) ?_
    refine EvD_cons (Ev_name (by rfl) (by rfl) ?_) (by rfl)
    refine EvD_cons (Ev_if (Ts_boolop (TsA_and (Ts_cmp ?_ (by rfl))))) (by rfl)
    refine Ev_len ok' (by rfl) (by rfl) (by rfl) (Ev_name (by rfl) (by rfl) (len_l (ds := ns.map D.int) (by rfl) (by simp; lia) (Ev_int (lt_i ?_))))
    refine And.intro (fun t => ?_) (fun t => And.intro (fun t => nomatch t) (fun _ => Ev_int (EvD_nil (text_ok (n := n) ok' (by decide) (by decide) fun a' b' ls l1 l2 l3 => fin _ _ ⟨(ls, a', b'), ⟨l1, by show ls.length ≤ 12; lia, l3⟩, SubV.all (by rfl), rfl⟩))))
    refine TsA_and (Ts_cmp (Ev_box (by rfl) (by rfl) rfl (.inl rfl) (Ev_int (eq_i ?_))) (by rfl))
    refine And.intro (fun t => TsA_and_nil (And.intro (fun _ => Ev_int (EvD_nil (text_ok (n := n) ok' (by decide) (by decide) fun a' b' ls l1 l2 l3 => fin _ _ ⟨(ls, a', b'), ⟨l1, by show ls.length ≤ 12; lia, l3⟩, SubV.all (by rfl), rfl⟩))) (fun t => nomatch t))) (fun t => And.intro (fun t => nomatch t) (fun _ => Ev_int (EvD_nil (text_ok (n := n) ok' (by decide) (by decide) fun a' b' ls l1 l2 l3 => fin _ _ ⟨(ls, a', b'), ⟨l1, by show ls.length ≤ 12; lia, l3⟩, SubV.all (by rfl), rfl⟩))))
  dsimp only at p1 p2 p3 ⊢
  have M := hm oc p1 p2 p3
  have hwl := wordsOf_len oc
  refine Ex_cons (Ex1_assign (Ev_len ok' (by rfl) (by rfl) (by rfl) (Ev_name (by rfl) (by rfl) (len_by (by lia) ?_))) (by rfl) (by rfl))
  refine Ex_cons (Ex1_assign_tup (xs := ["cut", "window"]) (by rfl) (by first | (left; rfl) | (right; rfl)) (by rfl) (by decide) ?_)
  refine EvL_cons (Ev_bin (Ev_int ?_)) (by rfl)
  refine Ev_fun (f := 323) (n := n + 1) ok' (by rfl) (by rfl) (by rfl) (by rfl) (by show n + 1 ≤ n + 6; lia) (by rfl) ?_
  repeat (walk_at "mine")
  refine take_ok ok' (by lia) (by lia) fun a2 b2 u u0 u1 => ?_
  refine add_i ?_
  refine EvL_cons (Ev_bin (Ev_name (by rfl) (by rfl) ?_)) (by rfl)
  refine Ev_fun (f := 323) (n := n + 1) ok' (by rfl) (by rfl) (by rfl) (by rfl) (by show n + 1 ≤ n + 6; lia) (by rfl) ?_
  repeat (walk_at "mine")
  refine take_ok ok' (by decide) (by decide) fun a3 b3 v v0 v1 => ?_
  refine add_i ?_
  obtain ⟨u, rfl⟩ := Int.eq_ofNat_of_zero_le u0
  obtain ⟨v, rfl⟩ := Int.eq_ofNat_of_zero_le v0
  rw [show (1 + (u : Int)) = ((1 + u : Nat) : Int) by lia, show ((oc.length : Int) + (v : Int)) = ((oc.length + v : Nat) : Int) by lia]
  refine EvL_nil ⟨_, rfl, by simp, ?_⟩
  have c1 : 1 ≤ 1 + u := by lia
  have c2 : 1 + u < oc.length := by lia
  have w1 : oc.length ≤ oc.length + v := by lia
  generalize 1 + u = c at *
  generalize oc.length + v = w at *
  clear u0 u1 v0 v1
  refine Ex_cons (Ex1_assign ?_ (by rfl) (by rfl))
  refine Ev_fun (f := 226) (n := n + 4) ok' (by rfl) (by rfl) (by rfl) (by rfl) (by show n + 4 ≤ n + 6; lia) (by rfl) ?_
  refine EvD_cons (Ev_name (by rfl) (by rfl) ?_) (by rfl)
  refine EvD_cons (Ev_bin (Ev_int ?_)) (by rfl)
  refine Ev_fun (f := 323) (n := n + 1) ok' (by rfl) (by rfl) (by rfl) (by rfl) (by show n + 1 ≤ n + 6; lia) (by rfl) ?_
  repeat (walk_at "mine")
  refine take_ok ok' (by decide) (by decide) fun a4 b4 l l0 l1 => ?_
  refine add_i ?_
  repeat (walk_at "mine")
  refine finder_ok ok' (by lia) (by lia) (by decide) (by lia) fun f1 hf1 => ?_
  refine Ex_cons (Ex1_assign_tup (xs := ["tree", "layers"]) (by rfl) (by first | (left; rfl) | (right; rfl)) (by rfl) (by decide) ?_)
  refine EvL_cons ?_ (by rfl)
  refine Ev_fun (f := 274) (n := n + 4) ok' (by rfl) (by rfl) (by rfl) (by rfl) (by show n + 4 ≤ n + 6; lia) (by rfl) ?_
  repeat (walk_at "mine")
  refine tree_ok ok' (by decide) (by lia) (by decide) (by lia) fun f2 hf2 => ?_
  refine EvL_cons ?_ (by rfl)
  refine Ev_fun (f := 307) (n := n + 6) ok' (by rfl) (by rfl) (by rfl) (by rfl) (by show n + 6 ≤ n + 6; lia) (by rfl) ?_
  repeat (walk_at "mine")
  refine layered_ok ok' (by lia) (by decide) (by lia) fun f3 hf3 => ?_
  refine EvL_nil ⟨_, rfl, by simp, ?_⟩
  refine Ex_cons (Ex1_assign ?_ (by rfl) (by rfl))
  refine Ev_fun (f := 340) (n := n + 3) ok' (by rfl) (by rfl) (by rfl) (by rfl) (by show n + 3 ≤ n + 6; lia) (by rfl) ?_
  repeat (walk_at "mine")
  refine far_ok ok' hf1 ?_
  refine Ex_cons (Ex1_if (Ts_boolop (TsA_or (Ts_cmp ?_ (by rfl)))))
  refine Ev_fun (f := 340) (n := n + 3) ok' (by rfl) (by rfl) (by rfl) (by rfl) (by show n + 3 ≤ n + 6; lia) (by rfl) ?_
  repeat (walk_at "mine")
  refine far_ok ok' hf2 ?_
  refine Ev_name (by rfl) (by rfl) ?_
  refine ne_d (d := .list ((farAll oc).map DL)) (e := .list ((farAll oc).map DL)) (by rfl) (by rfl) (okN_lists _ _) (okN_lists _ _) fun t ht => ?_
  refine And.intro (fun q => absurd rfl (ht.mp q)) (fun _ => ?_)
  refine TsA_or (Ts_cmp ?_ (by rfl))
  refine Ev_fun (f := 340) (n := n + 3) ok' (by rfl) (by rfl) (by rfl) (by rfl) (by show n + 3 ≤ n + 6; lia) (by rfl) ?_
  repeat (walk_at "mine")
  refine far_ok ok' hf3 ?_
  refine Ev_name (by rfl) (by rfl) ?_
  refine ne_d (d := .list ((farAll oc).map DL)) (e := .list ((farAll oc).map DL)) (by rfl) (by rfl) (okN_lists _ _) (okN_lists _ _) fun t2 ht2 => ?_
  refine And.intro (fun q => absurd rfl (ht2.mp q)) (fun _ => ?_)
  refine TsA_or_nil (And.intro (fun t => nomatch t) (fun _ => Ex_nil ?_))
  refine Ex_cons (Ex1_assign (Ev_list (EvD_cons (Ev_name (by rfl) (by rfl) ?_) (by rfl))) (by rfl) (by rfl))
  refine EvD_cons (Ev_name (by rfl) (by rfl) ?_) (by rfl)
  refine EvD_nil ⟨by simp, ?_⟩
  refine Ex_cons (Ex1_assign ?_ (by rfl) (by rfl))
  refine Ev_fun (f := 359) (n := n + 3) ok' (by rfl) (by rfl) (by rfl) (by rfl) (by show n + 3 ≤ n + 6; lia) (by rfl) ?_
  repeat (walk_at "mine")
  refine words_ok ok' (by lia) ?_
  refine Ex_cons (Ex1_if (Ts_not (Ts_val ?_ (fun _ _ => rfl))))
  refine Ev_fun (f := 364) (n := n + 3) ok' (by rfl) (by rfl) (by rfl) (by rfl) (by show n + 3 ≤ n + 6; lia) (by rfl) ?_
  repeat (walk_at "mine")
  refine grown_ok ok' (by lia) M.grown ?_
  refine And.intro (fun t => nomatch t) (fun _ => Ex_nil ?_)
  refine Ex_cons (Ex1_if (Ts_cmp ?_ (by rfl)))
  refine Ev_fun (f := 369) (n := n + 3) ok' (by rfl) (by rfl) (by rfl) (by rfl) (by show n + 3 ≤ n + 6; lia) (by rfl) ?_
  repeat (walk_at "mine")
  refine ways_ok ok' (by lia) M.ways ?_
  refine Ev_compP ((wordsOf oc).map DL) gU ?_ ⟨fun x hx => ?_, by rfl, by rfl, by rfl, by rfl, by lia⟩ (by rfl)
  rotate_left
  · obtain ⟨l, hl, rfl⟩ := List.mem_map.mp hx
    have hll : l.length ≤ oc.length := by
      unfold wordsOf at hl
      obtain ⟨b, _, rfl⟩ := List.mem_map.mp hl
      exact endsOf_len oc b
    refine ⟨_, rfl, TsL_nil (And.intro (fun _ => ?_) (fun t => nomatch t))⟩
    refine Ev_bin (Ev_bin (Ev_list (EvD_cons (Ev_int ?_) (by rfl))))
    refine EvD_nil ⟨by decide, ?_⟩
    refine Ev_bin (Ev_len ok' (by rfl) (by rfl) (by rfl) (Ev_name (by rfl) (by rfl) (len_l (ds := l.map D.int) (by rfl) (by simp; lia) ?_)))
    refine Ev_int (sub_i ?_)
    refine mul_l (d1 := [.int 0]) (by rfl) (by rw [List.length_map]; lia) (by rw [List.length_map, List.length_singleton]; (clear hz p1 hwl w1; omega)) ?_
    refine Ev_list (EvD_cons (Ev_int ?_) (by rfl))
    refine EvD_nil ⟨by decide, ?_⟩
    refine add_l (d1 := rep [.int 0] (((l.map D.int).length : Int) - 1).toNat) (d2 := [.int 1]) (by rfl) (by rfl) (by rw [rep_one, List.length_replicate, List.length_map, List.length_singleton]; (clear hz p1 hwl w1; omega)) ?_
    exact ⟨rfl, rfl⟩
  refine Ev_name (by rfl) (by rfl) ⟨ItOk_list, rfl, ?_⟩
  rw [gU_words]
  have e1 : (wordsOf oc).map (fun l => DL (unitL l)) = ((wordsOf oc).map unitL).map DL := by rw [List.map_map]; rfl
  rw [e1]
  refine ne_d (d := .list (((wordsOf oc).map unitL).map DL)) (e := .list (((wordsOf oc).map unitL).map DL)) (by rfl) (by rfl) (okN_lists _ _) (okN_lists _ _) fun t ht => ?_
  refine And.intro (fun q => absurd rfl (ht.mp q)) (fun _ => Ex_nil ?_)
  refine Ex_cons (Ex1_assign_compP ((wordsOf oc).map DL) gLast ?_ ⟨fun x hx => ?_, by rfl, by rfl, by rfl, by rfl, by lia⟩ (by rfl) (by rfl))
  rotate_left
  · obtain ⟨l, hl, rfl⟩ := List.mem_map.mp hx
    have hll : l.length ≤ oc.length ∧ l ≠ [] := by
      unfold wordsOf at hl
      obtain ⟨b, hb, rfl⟩ := List.mem_map.mp hl
      obtain ⟨h1, h2⟩ := mem_upto.mp hb
      obtain ⟨b, rfl⟩ := Int.eq_ofNat_of_zero_le h1
      exact ⟨endsOf_len oc b, M.ne b (by lia)⟩
    have hl0 : 0 < l.length := List.length_pos_iff.mpr hll.2
    refine ⟨_, rfl, TsL_nil (And.intro (fun _ => ?_) (fun t => nomatch t))⟩
    refine Ev_sub (Ev_name (by rfl) (by rfl) ?_) (by rfl)
    refine Ev_un (Ev_int (neg_i ⟨rfl, item_ln (d := .int (lastI l)) (ds := l.map D.int) (by rfl) (by decide) (by rw [List.length_map]; lia) (by rw [List.length_map]; lia) ?_ ⟨rfl, gLast_DL hll.2⟩⟩))
    rw [List.length_map, show (-1 + (l.length : Int)).toNat = l.length - 1 by (clear hl0; lia), List.getElem?_map, lastI, List.getLastD_eq_getLast?, List.getLast?_eq_getElem?]
    rw [List.getElem?_eq_getElem (by (clear hz hwl w1; omega))]; rfl
  refine Ev_name (by rfl) (by rfl) ⟨ItOk_list, rfl, ?_⟩
  rw [gLast_words M.ne]
  refine Ex_freeze "longest" (ds := ((wordsOf oc).map lastI).map D.int) (by rfl) ?_
  refine Ex_cons (Ex1_if (Ts_cmp (Ev_name (by rfl) (by rfl) ?_) (by rfl)))
  refine Ev_compR 0 oc.length (fun b => some (.int (nextN oc b.toNat))) (by decide) (by lia) ?_ (fun p hp0 hp1 => ?_) (by rfl) (by rfl) (by rfl) (by rfl) (by rfl)
  rotate_left
  · obtain ⟨p, rfl⟩ := Int.eq_ofNat_of_zero_le hp0
    refine TsL_nil (And.intro (fun _ => ?_) (fun t => nomatch t))
    refine Ev_fun (f := 376) (n := n + 2) ok' (by rfl) (by rfl) (by rfl) (by rfl) (by show n + 2 ≤ n + 6; lia) (by rfl) ?_
    repeat (walk_at "mine")
    exact next_ok ok' (by lia) (by lia) ⟨rfl, rfl⟩
  · repeat (walk_at "mine")
    refine range_1 ⟨⟨_, rfl, by lia, by lia, by lia⟩, rfl, ?_⟩
    have e1 : (upto 0 oc.length).filterMap (fun b => some (D.int (nextN oc b.toNat))) = ((wordsOf oc).map lastI).map D.int := by
      rw [longs_eq M.next, List.map_map, ← List.filterMap_eq_map]; rfl
    rw [e1]
    refine ne_d (d := .list (((wordsOf oc).map lastI).map D.int)) (e := .list (((wordsOf oc).map lastI).map D.int)) (by rfl) (by rfl) (okN_ints _ _) (okN_ints _ _) fun t ht => ?_
    refine And.intro (fun q => absurd rfl (ht.mp q)) (fun _ => Ex_nil ?_)
    refine Ex_cons (Ex1_assign ?_ (by rfl) (by rfl))
    refine Ev_fun (f := 383) (n := n + 3) ok' (by rfl) (by rfl) (by rfl) (by rfl) (by show n + 3 ≤ n + 6; lia) (by rfl) ?_
    repeat (walk_at "mine")
    refine row_ok (b := 0) ok' hf1 (Nat.zero_le _) (Nat.le_refl _) ?_
    have hrl := rowN_len oc 0 oc.length
    have hR0 := rowN_drop (oc := oc) (show 0 < oc.length by lia)
    have hRlt := rowN_lt oc 0 oc.length (Nat.zero_le _)
    have hRm := fun x (hx : x ∈ rowN oc 0 oc.length) => rowN_mem hx (Nat.zero_le _)
    have hRi := fun x (hx : x ∈ (rowN oc 0 oc.length).dropLast) => rowN_init hx
    have hrow := M.row
    have hlong := M.long
    have hruns := M.runs w w1
    have hjoin := M.joined c c1 c2
    generalize hR : rowN oc 0 oc.length = R at hrl hR0 hRlt hRm hRi hrow hlong hruns hjoin ⊢
    refine Ex_cons (Ex1_if (Ts_boolop (TsA_or (Ts_cmp (Ev_name (by rfl) (by rfl) ?_) (by rfl)))))
    refine Ev_fun (f := 402) (n := n + 1) ok' (by rfl) (by rfl) (by rfl) (by rfl) (by show n + 1 ≤ n + 6; lia) (by rfl) ?_
    repeat (walk_at "mine")
    refine own_ok ok' (by lia) ?_
    rw [← hrow]
    refine ne_d (d := .list (R.map D.int)) (e := .list (R.map D.int)) (by rfl) (by rfl) (okN_ints _ _) (okN_ints _ _) fun t2 ht2 => ?_
    refine And.intro (fun q => absurd rfl (ht2.mp q)) (fun _ => ?_)
    refine TsA_or (Ts_cmp (Ev_slice (Ev_name (by rfl) (by rfl) ?_)) (by rfl))
    refine EvP_some (Ev_int ?_)
    refine EvP_none ?_
    refine And.intro (by rw [List.length_map]; lia) ?_
    rw [cut_map, cut_drop (by decide)]
    refine Ev_compP (R.dropLast.map D.int) (gI fun b => some (.int (lastI (endsOf oc b)))) ?_ ⟨fun x hx => ?_, by rfl, by rfl, by rfl, by rfl, by simp; lia⟩ (by rfl)
    rotate_left
    · obtain ⟨b, hb, rfl⟩ := List.mem_map.mp hx
      obtain ⟨b1, b2⟩ := hRi b hb
      obtain ⟨b, rfl⟩ := Int.eq_ofNat_of_zero_le (show 0 ≤ b by omega)
      refine ⟨_, rfl, TsL_nil (And.intro (fun _ => ?_) (fun t => nomatch t))⟩
      refine Ev_sub (Ev_name (by rfl) (by rfl) ?_) (by rfl)
      refine Ev_name (by rfl) (by rfl) ⟨rfl, item_l (d := .int (lastI (endsOf oc b))) (ds := ((wordsOf oc).map lastI).map D.int) (by rfl) (by omega) (by omega) ?_ ⟨rfl, rfl⟩⟩
      rw [Int.toNat_natCast, List.map_map, wordsOf, List.map_map, List.getElem?_map, upto_get (by lia)]; simp
    refine Ev_slice (Ev_name (by rfl) (by rfl) ?_)
    refine EvP_none (EvP_some (Ev_un (Ev_int (neg_i ?_))))
    refine And.intro (by rw [List.length_map]; lia) ?_
    rw [cut_map, cut_last]
    refine ⟨ItOk_list, rfl, ?_⟩
    rw [filterMap_gI, show (fun b : Int => some (D.int (lastI (endsOf oc b)))) = some ∘ (fun b : Int => D.int (lastI (endsOf oc b))) from rfl, List.filterMap_eq_map]
    have e2 : R.dropLast.map (fun b : Int => D.int (lastI (endsOf oc b))) = (R.dropLast.map fun b => lastI (endsOf oc b)).map D.int := by rw [List.map_map]; rfl
    rw [e2, ← hlong]
    refine ne_d (d := .list ((R.drop 1).map D.int)) (e := .list ((R.drop 1).map D.int)) (by rfl) (by rfl) (okN_ints _ _) (okN_ints _ _) fun t3 ht3 => ?_
    refine And.intro (fun q => absurd rfl (ht3.mp q)) (fun _ => ?_)
    refine TsA_or_nil (And.intro (fun t => nomatch t) (fun _ => Ex_nil ?_))
    refine Ex_cons (Ex1_if (Ts_not (Ts_val ?_ (fun _ _ => rfl))))
    refine Ev_fun (f := 388) (n := n + 4) ok' (by rfl) (by rfl) (by rfl) (by rfl) (by show n + 4 ≤ n + 6; lia) (by rfl) ?_
    repeat (walk_at "mine")
    refine runs_ok ok' hf2 (by lia) (by rw [hR0]; simp) (fun i hi => ?_) ?_
    · have g1 := hRm R[i] (List.getElem_mem _)
      have g2 := hRm R[i + 1] (List.getElem_mem _)
      have g3 := List.pairwise_iff_getElem.mp hRlt i (i + 1) (by lia) hi (by lia)
      simp only [List.getD_eq_getElem?_getD, List.getElem?_eq_getElem hi, List.getElem?_eq_getElem (show i < R.length by lia), Option.getD_some]
      lia
    rw [hruns]
    refine And.intro (fun t => nomatch t) (fun _ => Ex_nil ?_)
    refine Ex_cons (Ex1_assign (Ev_bin ?_) (by rfl) (by rfl))
    refine Ev_fun (f := 383) (n := n + 3) ok' (by rfl) (by rfl) (by rfl) (by rfl) (by show n + 3 ≤ n + 6; lia) (by rfl) ?_
    repeat (walk_at "mine")
    refine row_ok (b := 0) ok' hf2 (Nat.zero_le _) (by lia) ?_
    refine Ev_slice ?_
    refine Ev_fun (f := 383) (n := n + 3) ok' (by rfl) (by rfl) (by rfl) (by rfl) (by show n + 3 ≤ n + 6; lia) (by rfl) ?_
    repeat (walk_at "mine")
    refine row_ok ok' hf3 (by lia) (Nat.le_refl _) ?_
    have l1 := rowN_len oc 0 c
    have l2 := rowN_len oc c oc.length
    refine EvP_some (Ev_int ?_)
    refine EvP_none ?_
    refine And.intro (by rw [List.length_map]; (clear c1; lia)) ?_
    rw [cut_map, cut_drop (by decide)]
    refine add_l (d1 := (rowN oc 0 c).map D.int) (d2 := ((rowN oc c oc.length).drop 1).map D.int) (by rfl) (by rfl) (by simp; lia) ?_
    rw [← List.map_append]
    refine Ex_cons (Ex1_ret (Ev_cmp ?_ (by rfl)))
    refine Ev_fun (f := 395) (n := n + 2) ok' (by rfl) (by rfl) (by rfl) (by rfl) (by show n + 2 ≤ n + 6; lia) (by rfl) ?_
    repeat (walk_at "mine")
    refine joined_ok ok' (by lia) (rowN_good c1 c2) ?_
    rw [hjoin]
    refine Ev_name (by rfl) (by rfl) ?_
    refine eq_d (d := .list (R.map D.int)) (e := .list (R.map D.int)) (by rfl) (by rfl) (okN_ints _ _) (okN_ints _ _) fun t4 ht4 => ?_
    rw [ht4.mpr rfl]
    exact ⟨rfl, rfl⟩
end
section
set_option linter.unusedVariables false
set_option maxRecDepth 100000
/-- the letter at a place -/
noncomputable def tx (oc : List Int) (i : Nat) : Int := oc.getD i 0
theorem tx_eq {oc : List Int} {i j : Nat} (hi : i < oc.length) (hj : j < oc.length) : oc[i]? = oc[j]? ↔ tx oc i = tx oc j := by
  unfold tx
  simp only [List.getD_eq_getElem?_getD, List.getElem?_eq_getElem hi, List.getElem?_eq_getElem hj, Option.getD_some, Option.some.injEq]
theorem alikeF_spec {oc : List Int} {p o : Nat} (hop : o ≤ p) : ∀ (j k : Nat), p + k + j ≤ oc.length → (∀ i, i < k → tx oc (p + i) = tx oc (o + i)) →
    k ≤ alikeF oc p o j k ∧ alikeF oc p o j k ≤ k + j ∧ (∀ i, i < alikeF oc p o j k → tx oc (p + i) = tx oc (o + i)) ∧ (alikeF oc p o j k = k + j ∨ tx oc (p + alikeF oc p o j k) ≠ tx oc (o + alikeF oc p o j k))
  | 0, k, _, h => ⟨Nat.le_refl _, Nat.le_refl _, h, .inl rfl⟩
  | j + 1, k, hl, h => by
    rw [alikeF]
    split
    · rename_i e
      rw [tx_eq (oc := oc) (i := p + k) (j := o + k) (by lia) (by lia)] at e
      obtain ⟨a, b, c, d⟩ := alikeF_spec (oc := oc) hop j (k + 1) (by lia) (fun i hi => by
        by_cases q : i = k
        · subst q; exact e
        · exact h i (by lia))
      refine ⟨by lia, by lia, c, ?_⟩
      rcases d with d | d
      · left; lia
      · right; exact d
    · rename_i e
      rw [tx_eq (oc := oc) (i := p + k) (j := o + k) (by lia) (by lia)] at e
      exact ⟨Nat.le_refl _, by lia, h, .inr e⟩
theorem lenN_spec {oc : List Int} {p o m : Nat} (hop : o ≤ p) (hp : p ≤ oc.length) : lenN oc p o m ≤ min m (oc.length - p) ∧ (∀ i, i < lenN oc p o m → tx oc (p + i) = tx oc (o + i)) ∧ (lenN oc p o m = min m (oc.length - p) ∨ tx oc (p + lenN oc p o m) ≠ tx oc (o + lenN oc p o m)) := by
  obtain ⟨a, b, c, d⟩ := alikeF_spec (oc := oc) hop (min m (oc.length - p)) 0 (by lia) (fun i hi => absurd hi (Nat.not_lt_zero _))
  unfold lenN
  exact ⟨by lia, c, by simpa using d⟩
section
variable {oc : List Int} {b o e m p : Nat}
theorem lessB_Lt (h1 : b < o) (h2 : o < e) (h3 : e ≤ oc.length) : lessB oc b e o e = true ↔ Lt (tx oc) e b o := by
  obtain ⟨l1, l2, l3⟩ := lenN_spec (oc := oc) (p := o) (o := b) (m := oc.length) (by lia) (by lia)
  unfold lessB
  dsimp only
  generalize lenN oc o b oc.length = c at *
  constructor
  · intro h
    split at h
    · have := of_decide_eq_true h; (clear h; lia)
    · have := of_decide_eq_true h
      exact .of_strict (c := c) (by lia) (by lia) (fun i hi => (l2 i hi).symm) this
  · intro h
    obtain ⟨d, g1, g2, g3⟩ := h.strict (by lia)
    have hd : c = d := by
      rcases Nat.lt_trichotomy c d with x | x | x
      · have := g2 c x
        rcases l3 with l3 | l3
        · (clear l1; lia)
        · exact absurd this.symm l3
      · exact x
      · have := l2 d x; lia
    subst hd
    rw [if_neg (by lia)]
    exact decide_eq_true g3
theorem lessB_UV (h1 : b < m) (h2 : m < e) (h3 : e ≤ oc.length) : lessB oc b m m e = true ↔ UV (tx oc) b m e := by
  obtain ⟨l1, l2, l3⟩ := lenN_spec (oc := oc) (p := m) (o := b) (m := oc.length) (by lia) (by lia)
  unfold lessB
  dsimp only
  generalize lenN oc m b oc.length = c at *
  constructor
  · intro h
    split at h
    · have := of_decide_eq_true h
      exact ⟨m - b, fun i hi => (l2 i (by (clear h1 h; lia))).symm, by (clear h; lia), .inl (by lia)⟩
    · have := of_decide_eq_true h
      exact ⟨c, fun i hi => (l2 i hi).symm, by (clear h1 h2 h3 l1 this; omega), .inr ⟨by (clear h1 h2 h3 l1 this; omega), this⟩⟩
  · rintro ⟨d, g1, g2, g3⟩
    rcases g3 with g3 | ⟨g3, g4⟩
    · have hc : d ≤ c := by
        apply Classical.byContradiction
        intro x
        rcases l3 with l3 | l3
        · (clear l1 g3; lia)
        · exact l3 (g1 c (by (clear g3; lia))).symm
      rw [if_pos (by (clear h1; lia))]
      exact decide_eq_true (by (clear h1; lia))
    · have hd : c = d := by
        rcases Nat.lt_trichotomy c d with x | x | x
        · have := g1 c x
          rcases l3 with l3 | l3
          · (clear l1 g3; lia)
          · exact absurd this.symm l3
        · exact x
        · have := l2 d x; lia
      subst hd
      rw [if_neg (by (clear h1; lia))]
      exact decide_eq_true g4
theorem lowC_Lt (h1 : o < p) (h2 : p < e) (h3 : e ≤ oc.length) : lowC oc p o e = true ↔ Lt (tx oc) e p o := by
  obtain ⟨l1, l2, l3⟩ := lenN_spec (oc := oc) (p := p) (o := o) (m := e - p) (by lia) (by lia)
  unfold lowC
  dsimp only
  generalize lenN oc p o (e - p) = c at *
  rw [Bool.or_eq_true, decide_eq_true_eq, decide_eq_true_eq]
  constructor
  · intro h
    refine ⟨c, by (clear h3; lia), l2, ?_⟩
    by_cases x : p + c = e
    · exact .inl x
    · exact .inr ⟨by (clear h3; lia), h.resolve_left x⟩
  · rintro ⟨d, g1, g2, g3⟩
    have hd : c = d := by
      rcases Nat.lt_trichotomy c d with x | x | x
      · have := g2 c x
        rcases l3 with l3 | l3
        · (clear l1 l2; lia)
        · exact absurd this l3
      · exact x
      · have := l2 d x
        rcases g3 with g3 | g3 <;> lia
    subst hd
    rcases g3 with g3 | g3
    · exact .inl g3
    · exact .inr g3.2
theorem wordB_iff (h1 : b < e) (h3 : e ≤ oc.length) : wordB oc b e = true ↔ LYN (tx oc) b e := by
  unfold wordB
  rw [List.all_eq_true]
  constructor
  · intro h
    refine ⟨h1, fun p p1 p2 => ?_⟩
    have := h (p - b - 1) (List.mem_range.mpr (by (clear h3; omega)))
    rw [show b + 1 + (p - b - 1) = p by (clear h1 h3; omega), lessB_Lt p1 p2 h3] at this
    exact this
  · intro h k hk
    have := List.mem_range.mp hk
    rw [lessB_Lt (by lia) (by (clear h1 h3; omega)) h3]
    exact h.2 _ (by lia) (by (clear h1 h3; omega))
theorem mem_endsOf : (e : Int) ∈ endsOf oc b ↔ b < e ∧ e ≤ oc.length ∧ LYN (tx oc) b e := by
  unfold endsOf
  rw [List.mem_filter, mem_upto, Int.toNat_natCast, Int.toNat_natCast]
  constructor
  · rintro ⟨h1, h2⟩
    have a1 : b < e := by omega
    have a2 : e ≤ oc.length := by omega
    exact ⟨a1, a2, (wordB_iff a1 a2).mp h2⟩
  · rintro ⟨a1, a2, h⟩
    exact ⟨by lia, (wordB_iff a1 a2).mpr h⟩
theorem mem_endsOf' {x : Int} (h : x ∈ endsOf oc b) : ∃ e : Nat, x = e ∧ b < e ∧ e ≤ oc.length ∧ LYN (tx oc) b e := by
  have h1 := endsOf_mem h
  obtain ⟨e, rfl⟩ := Int.eq_ofNat_of_zero_le (show 0 ≤ x by lia)
  exact ⟨e, rfl, mem_endsOf.mp h⟩
theorem last_of {l : List Int} {g : Int} (hp : l.Pairwise (· < ·)) (hg : g ∈ l) (hm : ∀ x ∈ l, x ≤ g) : l = l.dropLast ++ [g] := by
  have hne : l ≠ [] := fun e => by rw [e] at hg; cases hg
  have e := List.dropLast_concat_getLast hne
  have h1 := hm _ (List.getLast_mem hne)
  have : l.getLast hne = g := by
    rw [← e, List.mem_append] at hg
    rcases hg with hg | hg
    · rw [← e, List.pairwise_append] at hp
      have := hp.2.2 g hg _ (List.mem_singleton.mpr rfl)
      (clear hm; lia)
    · exact (List.mem_singleton.mp hg).symm
  rw [this] at e
  exact e.symm
theorem endsOf_last {g : Nat} (h : IsN (tx oc) oc.length b g) : endsOf oc b = (endsOf oc b).dropLast ++ [(g : Int)] := by
  refine last_of ((upto_lt _ _).filter _) (mem_endsOf.mpr ⟨h.lt, h.le, h.lyn⟩) fun x hx => ?_
  obtain ⟨e, rfl, h1, h2, h3⟩ := mem_endsOf' hx
  have := h.max h3 h2; lia
theorem lastI_N {g : Nat} (h : IsN (tx oc) oc.length b g) : lastI (endsOf oc b) = g := by
  rw [endsOf_last h, lastI]; simp
theorem nextF_N {g : Nat} (h : IsN (tx oc) oc.length b g) : ∀ (j p : Nat), p + j = oc.length → b < p → p ≤ g → nextF oc b j p = g
  | 0, p, h1, h2, h3 => by
    have := h.le
    unfold nextF; lia
  | j + 1, p, h1, h2, h3 => by
    unfold nextF
    split
    · rename_i e
      rw [lessB_Lt h2 (by lia) (Nat.le_refl _)] at e
      refine nextF_N h j (p + 1) (by lia) (by lia) ?_
      by_cases x : p = g
      · subst x
        exact (e.asymm (h.fin.resolve_left (by lia))).elim
      · lia
    · rename_i e
      rw [lessB_Lt h2 (by lia) (Nat.le_refl _)] at e
      by_cases x : p = g
      · exact x
      · exact absurd (h.mid p h2 (by lia)) e
theorem nextN_N {g : Nat} (h : IsN (tx oc) oc.length b g) : nextN oc b = g := by
  have := h.lt; have := h.le
  exact nextF_N h _ _ (by lia) (by lia) (by assumption)
theorem lowB_iff (h2 : p < e) (h3 : e ≤ oc.length) (hb : b ≤ p) : lowB oc b e p = true ↔ ∀ o, b ≤ o → o < p → Lt (tx oc) e p o := by
  unfold lowB
  rw [List.all_eq_true]
  constructor
  · intro h o h4 h5
    have := h (o - b) (List.mem_range.mpr (by lia))
    rw [show b + (o - b) = o by lia, lowC_Lt h5 h2 h3] at this
    exact this
  · intro h k hk
    have := List.mem_range.mp hk
    rw [lowC_Lt (by (clear h2 h3 hb; omega)) h2 h3]
    exact h _ (by lia) (by (clear h2 h3 hb; omega))
theorem upto_add (a : Int) (n m : Nat) : upto a (n + m) = upto a n ++ upto (a + n) m := by
  unfold upto
  rw [List.range_add, List.map_append, List.map_map]
  congr 1
  apply List.map_congr_left; intro i _; simp; lia
theorem rowN_step {g : Nat} (h : IsN (tx oc) e b g) (he : e ≤ oc.length) : rowN oc b e = (b : Int) :: rowN oc g e := by
  have h1 := h.lt; have h2 := h.le
  unfold rowN
  rw [show e - b = (g - b - 1 + 1) + (e - g) by lia, upto_add, List.filter_append, upto_succ]
  have e1 : ((b : Int) :: upto ((b : Int) + 1) (g - b - 1)).filter (fun p => lowB oc b e p.toNat) = [(b : Int)] := by
    rw [List.filter_cons_of_pos (by rw [Int.toNat_natCast]; unfold lowB; simp)]
    congr 1
    rw [List.filter_eq_nil_iff]
    intro x hx
    have := mem_upto.mp hx
    obtain ⟨p, rfl⟩ := Int.eq_ofNat_of_zero_le (show 0 ≤ x by lia)
    rw [Int.toNat_natCast, lowB_iff (by (clear he h1; omega)) he (by lia)]
    intro k
    exact (k b (Nat.le_refl _) (by (clear he h1; omega))).asymm (h.mid p (by (clear he h1; omega)) (by (clear he h1; omega)))
  rw [e1, show (b : Int) + ((g - b - 1 + 1 : Nat) : Int) = (g : Int) by (clear he; omega)]
  show (b : Int) :: _ = _
  congr 2
  apply List.filter_congr
  intro x hx
  have := mem_upto.mp hx
  obtain ⟨p, rfl⟩ := Int.eq_ofNat_of_zero_le (show 0 ≤ x by (clear h1; lia))
  rw [Int.toNat_natCast, Bool.eq_iff_iff, lowB_iff (by (clear he hx; lia)) he (by lia), lowB_iff (by (clear he hx; lia)) he (by lia)]
  constructor
  · intro k o o1 o2; exact k o (by lia) o2
  · intro k o o1 o2
    by_cases hgo : g ≤ o
    · exact k o hgo o2
    · have gb : Lt (tx oc) e g b := h.fin.resolve_left (by (clear he; lia))
      have hgo' : Lt (tx oc) e g o := by
        by_cases x : o = b
        · rw [x]; exact gb
        · exact gb.trans (h.mid o (by lia) (by lia))
      by_cases x : p = g
      · rw [x]; exact hgo'
      · exact (k g (Nat.le_refl _) (by lia)).trans hgo'
theorem rowN_self : rowN oc e e = [(e : Int)] := by unfold rowN; simp [upto_zero]
theorem rowN_CN (he : e ≤ oc.length) : ∀ (j b : Nat), b ≤ e → e - b ≤ j → CN (tx oc) e (rowN oc b e)
  | 0, b, h1, h2 => by
    have : b = e := by (clear he; lia)
    subst this
    rw [rowN_self]; rfl
  | j + 1, b, h1, h2 => by
    by_cases x : b = e
    · subst x; rw [rowN_self]; rfl
    · obtain ⟨g, hg⟩ := IsN.exists (tx oc) (e := e) (b := b) (by lia)
      have g1 := hg.lt; have g2 := hg.le
      have ih := rowN_CN he j g g2 (by (clear he x g2; omega))
      rw [rowN_step hg he]
      by_cases y : g = e
      · subst y; rw [rowN_self] at ih ⊢; exact ⟨⟨b, g, rfl, rfl, hg⟩, ih⟩
      · rw [rowN_drop (by lia)] at ih ⊢
        exact ⟨⟨b, g, rfl, rfl, hg⟩, ih⟩
end
theorem m_grown (oc : List Int) : GrownOk oc := by
  intro i e hi hie he
  have hmid : ∀ m : Int, m ∈ midsOf oc i e ↔ ∃ k : Nat, m = k ∧ i < k ∧ k < e ∧ LYN (tx oc) i k ∧ LYN (tx oc) k e := by
    intro m
    unfold midsOf
    rw [List.mem_filter, Bool.and_eq_true, decide_eq_true_eq, decide_eq_true_eq]
    constructor
    · rintro ⟨h1, h2, h3⟩
      obtain ⟨k, rfl, a1, a2, a3⟩ := mem_endsOf' h1
      obtain ⟨b1, b2, b3⟩ := mem_endsOf.mp h3
      exact ⟨k, rfl, a1, b1, a3, b3⟩
    · rintro ⟨k, rfl, a1, a2, a3, a4⟩
      exact ⟨mem_endsOf.mpr ⟨a1, by lia, a3⟩, by lia, mem_endsOf.mpr ⟨a2, he, a4⟩⟩
  have hris : ∀ m : Int, m ∈ risOf oc i e ↔ ∃ k : Nat, m = k ∧ i < k ∧ k < e ∧ LYN (tx oc) i k ∧ LYN (tx oc) k e ∧ UV (tx oc) i k e := by
    intro m
    unfold risOf
    rw [List.mem_filter, hmid]
    constructor
    · rintro ⟨⟨k, rfl, a1, a2, a3, a4⟩, h⟩
      rw [Int.toNat_natCast, lessB_UV a1 a2 he] at h
      exact ⟨k, rfl, a1, a2, a3, a4, h⟩
    · rintro ⟨k, rfl, a1, a2, a3, a4, h⟩
      exact ⟨⟨k, rfl, a1, a2, a3, a4⟩, by rw [Int.toNat_natCast, lessB_UV a1 a2 he]; exact h⟩
  have hE : (e : Int) ∈ endsOf oc i ↔ LYN (tx oc) i e := by
    rw [mem_endsOf]; exact ⟨fun h => h.2.2, fun h => ⟨hie, he, h⟩⟩
  rw [hE]
  refine ⟨⟨fun h => ?_, fun h => ?_⟩, fun h => ?_⟩
  · by_cases x : e = i + 1
    · exact .inl x
    · right
      obtain ⟨m, m1, m2, m3, m4⟩ := h.split (by lia)
      exact List.ne_nil_of_mem ((hris m).mpr ⟨m, rfl, m1, m2, m3, m4, h.uv m1 m2⟩)
  · rcases h with h | h
    · subst h; exact LYN.one _ _
    · obtain ⟨m, hm⟩ := List.exists_mem_of_ne_nil _ h
      obtain ⟨k, rfl, a1, a2, a3, a4, a5⟩ := (hris m).mp hm
      exact a3.concat a4 a5
  · unfold risOf
    rw [List.filter_eq_self]
    intro m hm
    obtain ⟨k, rfl, a1, a2, a3, a4⟩ := (hmid m).mp hm
    rw [Int.toNat_natCast, lessB_UV a1 a2 he]
    exact h.uv a1 a2
theorem unit_sum (P : Int → Bool) : ∀ (E : List Int) (g : Int), (((List.replicate E.length (0 : Int) ++ [1]).zip (E ++ [g])).filter (fun p : Int × Int => P p.2)).map (fun p : Int × Int => p.1) = List.replicate (E.filter P).length 0 ++ (if P g then [1] else [])
  | [], g => by
    show (([((1 : Int), g)].filter _).map _) = _
    by_cases h : P g = true
    · simp [h]
    · simp [h]
  | x :: E, g => by
    have ih := unit_sum P E g
    rw [List.length_cons, List.replicate_succ, List.cons_append, List.cons_append, List.zip_cons_cons, List.filter_cons, List.filter_cons]
    by_cases h : P x = true
    · simp only [h, if_true, List.map_cons, ih, List.length_cons, List.replicate_succ, List.cons_append]
    · simp only [h, if_false, Bool.false_eq_true, ih]
theorem sum_zeros (k : Nat) (l : List Int) : (List.replicate k 0 ++ l).sum = l.sum := by
  rw [List.sum_append_int]
  have : (List.replicate k (0 : Int)).sum = 0 := by
    induction k with
    | zero => rfl
    | succ k ih => rw [List.replicate_succ, List.sum_cons, ih]; rfl
  lia
theorem m_ways (oc : List Int) : WaysOk oc := by
  intro b hb
  obtain ⟨G, hG⟩ := IsN.exists (tx oc) hb
  have val : ∀ e : Nat, e < oc.length → (∃ g, IsN (tx oc) oc.length e g ∧ (restOf oc b e).sum = if lessB oc b e e g then 0 else 1) := by
    intro e he
    obtain ⟨g, hg⟩ := IsN.exists (tx oc) he
    refine ⟨g, hg, ?_⟩
    have e1 := endsOf_last hg
    unfold restOf unitL
    rw [e1]
    generalize (endsOf oc (e : Int)).dropLast = E
    rw [List.length_append, List.length_singleton, Nat.add_sub_cancel, unit_sum (fun x => !lessB oc b e e x.toNat), sum_zeros, Int.toNat_natCast]
    cases lessB oc b e e g <;> rfl
  have e1 := endsOf_last hG
  have hp : (endsOf oc b).Pairwise (· < ·) := (upto_lt _ _).filter _
  have hmem : ∀ x ∈ (endsOf oc (b : Int)).dropLast, ∃ e : Nat, x = e ∧ b < e ∧ e < G ∧ LYN (tx oc) b e := by
    intro x hx
    rw [e1, List.pairwise_append] at hp
    have h1 := hp.2.2 x hx _ (List.mem_singleton.mpr rfl)
    obtain ⟨e, rfl, a1, a2, a3⟩ := mem_endsOf' (List.dropLast_subset _ hx)
    exact ⟨e, rfl, a1, by lia, a3⟩
  unfold unitL
  rw [e1]
  generalize (endsOf oc (b : Int)).dropLast = E at hmem
  rw [List.map_append, List.length_append, List.length_singleton, Nat.add_sub_cancel]
  have := hG.le
  congr 1
  · rw [List.eq_replicate_iff]
    refine ⟨by simp, fun v hv => ?_⟩
    obtain ⟨x, hx, rfl⟩ := List.mem_map.mp hv
    obtain ⟨e, rfl, a1, a2, a3⟩ := hmem x hx
    obtain ⟨g, hg, hs⟩ := val e (by (clear hb; lia))
    rw [if_pos (by (clear hb; lia)), Int.toNat_natCast, hs, if_pos]
    rw [lessB_UV a1 hg.lt hg.le]
    apply Classical.byContradiction
    intro u
    have := hG.unique ((IsN.iff a3 (by lia) hg).mpr u)
    lia
  · rw [List.map_singleton]
    by_cases x : G = oc.length
    · rw [if_neg (by lia)]
    · obtain ⟨g, hg, hs⟩ := val G (by lia)
      rw [if_pos (by lia), Int.toNat_natCast, hs, if_neg]
      rw [lessB_UV hG.lt hg.lt hg.le]
      exact (IsN.iff hG.lyn (by lia) hg).mp hG
theorem m_ne {oc : List Int} (b : Nat) (h : b < oc.length) : endsOf oc b ≠ [] := List.ne_nil_of_mem (mem_endsOf.mpr ⟨Nat.lt_succ_self _, h, LYN.one _ _⟩)
theorem m_next {oc : List Int} (b : Nat) (h : b < oc.length) : lastI (endsOf oc b) = nextN oc b := by
  obtain ⟨g, hg⟩ := IsN.exists (tx oc) h
  rw [lastI_N hg, nextN_N hg]
theorem m_long (oc : List Int) : (rowN oc 0 oc.length).drop 1 = (rowN oc 0 oc.length).dropLast.map fun b => lastI (endsOf oc b) :=
  CN.map (fun a g h => lastI_N h) (rowN_CN (Nat.le_refl _) _ 0 (Nat.zero_le _) (Nat.le_refl _))
theorem CN.drop {f : Nat → Int} {e : Nat} : ∀ (i : Nat) {l : List Int}, CN f e l → i < l.length → CN f e (l.drop i)
  | 0, l, h, _ => by rw [List.drop_zero]; exact h
  | i + 1, [], h, _ => h.elim
  | i + 1, x :: l, h, hi => by
    rw [List.drop_succ_cons]
    refine CN.drop i (h.rest ?_) (by simpa using hi)
    intro e; subst e; simp at hi
theorem m_runs {oc : List Int} (h2 : 2 ≤ oc.length) (w : Nat) (hw : oc.length ≤ w) : runsB oc w (rowN oc 0 oc.length) = true := by
  have hCN := rowN_CN (oc := oc) (Nat.le_refl _) _ 0 (Nat.zero_le _) (Nat.le_refl _)
  generalize rowN oc 0 oc.length = row at hCN
  unfold runsB
  rw [List.all_eq_true]
  intro i hi
  have hi := List.mem_range.mp hi
  have hd := hCN.drop i (by (clear h2 hw; omega))
  have d1 : row.drop i = row.getD i 0 :: row.getD (i + 1) 0 :: row.drop (i + 2) := by
    rw [List.drop_eq_getElem_cons (by (clear h2 hw; omega)), List.drop_eq_getElem_cons (by (clear h2 hw; omega))]
    simp only [List.getD_eq_getElem?_getD, List.getElem?_eq_getElem (show i < row.length by (clear h2 hw; omega)), List.getElem?_eq_getElem (show i + 1 < row.length by (clear h2 hw; omega)), Option.getD_some]
  rw [d1] at hd
  obtain ⟨⟨b, h, hb, hh, hN⟩, _⟩ := id hd
  have hlt := hN.lt
  have hle := hN.le
  have hre : repN oc w h (h - b) oc.length = lenN oc h b oc.length := by
    unfold repN
    rw [if_neg (by lia), show h - (h - b) = b by (clear hb; lia)]
  unfold runC
  dsimp only
  rw [hb, hh, Int.toNat_natCast, show ((h : Int) - (b : Int)).toNat = h - b by (clear hb; lia), hre]
  obtain ⟨l1, l2, l3⟩ := lenN_spec (oc := oc) (p := h) (o := b) (m := oc.length) (by lia) hle
  generalize lenN oc h b oc.length = c at *
  obtain ⟨s, rfl⟩ : ∃ s, h = b + s := ⟨h - b, by (clear hb; lia)⟩
  have es : ((b + s : Nat) : Int) - (b : Int) = (s : Int) := by lia
  rw [es, Int.fdiv_eq_ediv_of_nonneg _ (by (clear hlt; lia)), ← Int.natCast_ediv]
  have hmul : c / s * s ≤ c := Nat.div_mul_le_self c s
  have hmany := hN.many (c := c) (fun i hi => (l2 i hi).symm) (by (clear hw hi hb hh hlt hre l3 hmul; omega))
  have take := CN.run (m := c / s + 1) (b := b) (s := s) (fun t ht => hmany t (Nat.le_trans (Nat.mul_le_mul_right s (by lia)) hmul)) (c / s + 1) (Nat.le_refl _) (by rw [hb, Nat.sub_self, Nat.zero_mul, Nat.add_zero]) hd
  generalize c / s = m at *
  rw [Bool.and_eq_true]
  constructor
  · rw [decide_eq_true_eq]
    rw [← d1] at take
    have e1 : cut (some (i : Int)) (some ((i : Int) + (1 + (m : Int)) + 1)) row = (row.drop i).take (m + 1 + 1) := by
      unfold cut
      simp only [Option.elim]
      have a1 : clipAt row.length (i : Int) = i := by unfold clipAt; (clear l3; lia)
      rw [a1]
      by_cases q : i + (m + 1 + 1) ≤ row.length
      · have a2 : clipAt row.length ((i : Int) + (1 + (m : Int)) + 1) = i + (m + 1 + 1) := by unfold clipAt; (clear l3 take; lia)
        rw [a2]; congr 1; lia
      · have a2 : clipAt row.length ((i : Int) + (1 + (m : Int)) + 1) = row.length := by unfold clipAt; (clear hw l3 take; lia)
        rw [a2, List.take_of_length_le (by rw [List.length_drop]; lia), List.take_of_length_le (by rw [List.length_drop]; lia)]
    rw [e1, take]
    unfold upto
    rw [List.map_map, show (1 + (m : Int) + 1).toNat = m + 1 + 1 by lia]
    apply List.map_congr_left
    intro t _
    show ((b + (m + 1 - (m + 1) + t) * s : Nat) : Int) = (b : Int) + (0 + (t : Int)) * s
    rw [Nat.sub_self, Nat.zero_add, Int.natCast_add, Int.natCast_mul]; simp
  · rw [Bool.not_eq_true', Bool.and_eq_false_iff]
    by_cases q : b + s + c < oc.length
    · right
      rw [decide_eq_false_iff_not, show (((b + s : Nat) : Int) + (c : Int) - (s : Int)).toNat = b + c by lia, show (((b + s : Nat) : Int) + (c : Int)).toNat = b + s + c by lia]
      obtain ⟨d, g1, g2, g3⟩ := hN.fin.resolve_left (by lia)
      have l3 := l3.resolve_left (by lia)
      have hd : c = d := by
        rcases Nat.lt_trichotomy c d with x | x | x
        · exact absurd (g2 c x) l3
        · exact x
        · have := l2 d x
          rcases g3 with g3 | g3 <;> lia
      subst hd
      rcases g3 with g3 | g3
      · lia
      · have : tx oc (b + s + c) < tx oc (b + c) := g3.2
        exact Int.not_le.mpr this
    · left
      rw [decide_eq_false_iff_not]; lia
/-- places that follow one another, each with a word to the next -/
noncomputable def LC (f : Nat → Int) (n : Nat) : List Int → Prop
  | x :: y :: r => (∃ a c : Nat, x = (a : Int) ∧ y = (c : Int) ∧ LYN f a c ∧ c ≤ n) ∧ LC f n (y :: r)
  | _ => True
theorem LC.of_CN {f : Nat → Int} {e n : Nat} (he : e ≤ n) : ∀ {l : List Int}, CN f e l → LC f n l
  | [], h => h.elim
  | [x], _ => trivial
  | x :: y :: r, h => by
    obtain ⟨⟨a, g, rfl, rfl, hi⟩, h2⟩ := h
    exact ⟨⟨a, g, rfl, rfl, hi.lyn, Nat.le_trans hi.le he⟩, LC.of_CN he h2⟩
theorem CN.getLast {f : Nat → Int} {e : Nat} : ∀ {l : List Int}, CN f e l → l.getLast? = some (e : Int)
  | [], h => h.elim
  | [x], h => by have h : x = (e : Int) := h; simp [h]
  | x :: y :: r, h => by
    rw [List.getLast?_cons_cons]; exact CN.getLast h.2
theorem LC.app {f : Nat → Int} {n : Nat} {x : Int} {r : List Int} : ∀ {l : List Int}, LC f n l → l.getLast? = some x → LC f n (x :: r) → LC f n (l ++ r)
  | [], _, h, _ => by cases h
  | [y], _, h, k => by cases h; exact k
  | y :: z :: l, h, hl, k => by
    rw [List.getLast?_cons_cons] at hl
    exact ⟨h.1, LC.app h.2 hl k⟩
theorem settle_LK {oc : List Int} : ∀ (k : Nat) (st : List Int) (p : Int), st.length = k → LK (tx oc) oc.length (p :: st) → NU (tx oc) st → LK (tx oc) oc.length (settle oc (p :: st)) ∧ NU (tx oc) (settle oc (p :: st)) ∧ (settle oc (p :: st)).head? = some p
  | k, [], p, _, h, _ => by unfold settle; exact ⟨h, trivial, rfl⟩
  | k, [m], p, _, h, _ => by unfold settle; exact ⟨h, trivial, rfl⟩
  | k, m :: b :: r, p, hk, h, hn => by
    obtain ⟨⟨a, c, rfl, rfl, hl, hcn⟩, ⟨a', c', rfl, hc', hl', hcn'⟩, h3⟩ := id h
    have : a = c' := by lia
    subst this
    unfold settle
    rw [Int.toNat_natCast, Int.toNat_natCast, Int.toNat_natCast]
    split
    · rename_i u
      rw [lessB_UV hl'.1 hl.1 hcn] at u
      exact settle_LK (k - 1) ((a' : Int) :: r) c (by simp at hk ⊢; lia) ⟨⟨a', c, rfl, rfl, hl'.concat hl u, hcn⟩, h3⟩ hn.rest
    · rename_i u
      rw [lessB_UV hl'.1 hl.1 hcn] at u
      refine ⟨h, ⟨?_, hn⟩, rfl⟩
      rw [Int.toNat_natCast, Int.toNat_natCast, Int.toNat_natCast]; exact u
termination_by k st => st.length
theorem joinF_LK {oc : List Int} : ∀ (ps st : List Int) (x : Int), LK (tx oc) oc.length (x :: st) → NU (tx oc) (x :: st) → LC (tx oc) oc.length (x :: ps) →
    ∃ y r, joinF oc (x :: st) ps = y :: r ∧ LK (tx oc) oc.length (y :: r) ∧ NU (tx oc) (y :: r) ∧ (x :: ps).getLast? = some y
  | [], st, x, h, hn, _ => ⟨x, st, rfl, h, hn, rfl⟩
  | p :: ps, st, x, h, hn, hc => by
    obtain ⟨⟨a, c, rfl, rfl, hl, hcn⟩, hc2⟩ := hc
    obtain ⟨s1, s2, s3⟩ := settle_LK _ ((a : Int) :: st) (c : Int) rfl ⟨⟨a, c, rfl, rfl, hl, hcn⟩, h⟩ hn
    have hj : joinF oc ((a : Int) :: st) ((c : Int) :: ps) = joinF oc (settle oc ((c : Int) :: (a : Int) :: st)) ps := rfl
    rw [hj]
    generalize settle oc ((c : Int) :: (a : Int) :: st) = S at s1 s2 s3
    cases S with
    | nil => cases s3
    | cons y r =>
      cases s3
      obtain ⟨y, r', e1, e2, e3, e4⟩ := joinF_LK ps r (c : Int) s1 s2 hc2
      exact ⟨y, r', e1, e2, e3, by rw [List.getLast?_cons_cons]; exact e4⟩
theorem m_joined {oc : List Int} (c : Nat) (h1 : 1 ≤ c) (h2 : c < oc.length) : (joinF oc [] (rowN oc 0 c ++ (rowN oc c oc.length).drop 1)).reverse = rowN oc 0 oc.length := by
  have k1 := rowN_CN (oc := oc) (e := c) (by lia) _ 0 (Nat.zero_le _) (Nat.le_refl _)
  have k2 := rowN_CN (oc := oc) (Nat.le_refl _) _ c (by lia) (Nat.le_refl _)
  have k3 := rowN_CN (oc := oc) (Nat.le_refl _) _ 0 (Nat.zero_le _) (Nat.le_refl _)
  have d1 := rowN_drop (oc := oc) (b := 0) (e := c) (by assumption)
  have d2 := rowN_drop (oc := oc) (b := c) (e := oc.length) h2
  have d3 := rowN_drop (oc := oc) (b := 0) (e := oc.length) (by (clear h1; lia))
  have hLC : LC (tx oc) oc.length (rowN oc 0 c ++ (rowN oc c oc.length).drop 1) := by
    refine (LC.of_CN (by lia) k1).app k1.getLast ?_
    rw [← d2]
    exact LC.of_CN (Nat.le_refl _) k2
  have hlast : (rowN oc 0 c ++ (rowN oc c oc.length).drop 1).getLast? = some (oc.length : Int) := by
    have g2 := k2.getLast
    rw [d2] at g2
    cases hR : (rowN oc c oc.length).drop 1 with
    | nil => rw [hR] at g2; simp at g2; lia
    | cons y r =>
      rw [hR, List.getLast?_cons_cons] at g2
      rw [List.getLast?_append, g2]; rfl
  rw [d1, List.cons_append] at hLC hlast ⊢
  generalize (rowN oc 0 c).drop 1 ++ (rowN oc c oc.length).drop 1 = ps at hLC hlast ⊢
  have hj : joinF oc [] (((0 : Nat) : Int) :: ps) = joinF oc [((0 : Nat) : Int)] ps := by
    show joinF oc (settle oc [((0 : Nat) : Int)]) ps = _
    unfold settle; rfl
  rw [hj]
  obtain ⟨y, r, e1, e2, e3, e4⟩ := joinF_LK ps [] ((0 : Nat) : Int) rfl trivial hLC
  rw [hlast] at e4
  cases e4
  rw [e1]
  obtain ⟨g1, g2⟩ := CN.of_stack (e := oc.length) (acc := []) e2 e3 rfl (fun m y _ h => (nomatch h)) (Nat.le_refl _)
  rw [List.append_nil] at g1 g2
  generalize ((oc.length : Int) :: r).reverse = R at g1 g2
  cases R with
  | nil => cases g2
  | cons x R =>
    cases g2
    rw [d3] at k3 ⊢
    rw [CN.unique (l1 := R) g1 k3]; rfl
/-- the state of Duval's inner loop -/
structure DI (f : Nat → Int) (n b k a : Nat) : Prop where
  lo : b ≤ k
  lt : k < a
  le : a ≤ n
  lyn : LYN f b (b + (a - k))
  per : ∀ i, b ≤ i → i + (a - k) < a → f (i + (a - k)) = f i
theorem dIn_spec {oc : List Int} {b : Nat} : ∀ (j k a : Nat), oc.length - a ≤ j → DI (tx oc) oc.length b k a → ∃ k' a', dIn oc b j k a = (k', a') ∧ DI (tx oc) oc.length b k' a' ∧ (a' = oc.length ∨ (a' < oc.length ∧ tx oc a' < tx oc k'))
  | 0, k, a, hj, h => ⟨k, a, rfl, h, .inl (by have := h.le; lia)⟩
  | j + 1, k, a, hj, h => by
    have h1 := h.lo; have h2 := h.lt; have h3 := h.le; have h4 := h.lyn; have h5 := h.per
    by_cases c : a < oc.length ∧ oc.getD k 0 ≤ oc.getD a 0
    · rw [dIn, if_pos c]
      by_cases d : oc.getD k 0 < oc.getD a 0
      · rw [if_pos d]
        refine dIn_spec j b (a + 1) (by (clear h1 c; omega)) ⟨Nat.le_refl _, by lia, by (clear h3; lia), ?_, fun i i1 i2 => by lia⟩
        have := LYN.grow (a := a) h4 (by (clear hj h5; lia)) h5 (by rw [show a - (a - k) = k by (clear hj; lia)]; exact d)
        rw [show b + (a + 1 - b) = a + 1 by lia]; exact this
      · rw [if_neg d]
        have e : tx oc k = tx oc a := Int.le_antisymm c.2 (Int.not_lt.mp d)
        refine dIn_spec j (k + 1) (a + 1) (by (clear h1 c; omega)) ⟨by lia, by lia, by (clear h3; lia), ?_, fun i i1 i2 => ?_⟩
        · rw [show a + 1 - (k + 1) = a - k by lia]; exact h4
        · rw [show a + 1 - (k + 1) = a - k by lia] at i2 ⊢
          by_cases q : i + (a - k) = a
          · rw [q, show i = k by lia]; exact e.symm
          · exact h5 i i1 (by lia)
    · rw [dIn, if_neg c]
      refine ⟨k, a, rfl, h, ?_⟩
      by_cases q : a < oc.length
      · right
        exact ⟨q, Int.not_le.mp fun x => c ⟨q, x⟩⟩
      · left; lia
theorem dEm_spec {oc : List Int} {s k a : Nat} (hs : 1 ≤ s) (hk : k + s = a) (ha : a ≤ oc.length) : ∀ (j b : Nat) (F : List Int), k + 1 - b ≤ j → b ≤ a → (b ≤ k → IsN (tx oc) oc.length b (b + s)) → (∀ i, b ≤ i → i + s < a → tx oc (i + s) = tx oc i) →
    ∃ b' X, dEm s k j b F = (b', F ++ X) ∧ b ≤ b' ∧ (b ≤ k → b < b') ∧ b' ≤ oc.length ∧ (rowN oc b oc.length).drop 1 = X ++ (rowN oc b' oc.length).drop 1
  | 0, b, F, hj, hb, hi, hp => ⟨b, [], by rw [List.append_nil]; rfl, Nat.le_refl _, fun x => by (clear hs hk ha hi; omega), by (clear hk; lia), rfl⟩
  | j + 1, b, F, hj, hb, hi, hp => by
    by_cases c : b ≤ k
    · have h1 := hi c
      rw [dEm, if_pos c]
      obtain ⟨b', X, e1, e2, e3, e4, e5⟩ := dEm_spec hs hk ha j (b + s) (F ++ [((b + s : Nat) : Int)]) (by (clear hk ha hi; omega)) (by lia) (fun c2 => h1.next rfl (fun i hi => by
        have := hp (b + i) (by lia) (by lia)
        rw [show b + i + s = b + s + i by (clear this; lia)] at this
        exact this.symm) (by lia)) (fun i i1 i2 => hp i (by (clear hs; lia)) i2)
      refine ⟨b', ((b + s : Nat) : Int) :: X, by rw [e1, List.append_assoc]; rfl, by (clear hs; lia), fun _ => by lia, e4, ?_⟩
      rw [rowN_step h1 (Nat.le_refl _)]
      show rowN oc (b + s) oc.length = _
      by_cases q : b + s = oc.length
      · have : b' = oc.length := by (clear c; lia)
        subst this
        rw [q] at e5 ⊢
        rw [rowN_self] at e5 ⊢
        have : X = [] := by
          have := congrArg List.length e5
          simp at this
          exact List.eq_nil_of_length_eq_zero this.symm
        subst this; rfl
      · rw [rowN_drop (by have := h1.le; (clear c this; lia)), e5]; rfl
    · rw [dEm, if_neg c]
      exact ⟨b, [], by rw [List.append_nil], Nat.le_refl _, fun x => absurd x c, by (clear hk; lia), rfl⟩
theorem dGo_spec {oc : List Int} : ∀ (j b : Nat) (F : List Int), oc.length - b ≤ j → b ≤ oc.length → dGo oc j b F = F ++ (rowN oc b oc.length).drop 1
  | 0, b, F, hj, hb => by
    have : b = oc.length := by lia
    subst this
    rw [rowN_self]; simp [dGo]
  | j + 1, b, F, hj, hb => by
    by_cases c : b < oc.length
    · rw [dGo, if_pos c]
      obtain ⟨k, a, e1, e2, e3⟩ := dIn_spec (oc := oc) (b := b) oc.length b (b + 1) (by (clear hj; omega)) ⟨Nat.le_refl _, Nat.lt_succ_self _, c, by rw [Nat.add_sub_cancel_left]; exact LYN.one _ _, fun i i1 i2 => by lia⟩
      have h1 := e2.lo; have h2 := e2.lt; have h3 := e2.le
      have hN := e2.lyn.isN (a := a) (n := oc.length) (by lia) h3 e2.per (by rw [show a - (a - k) = k by lia]; exact e3)
      obtain ⟨b', X, g1, g2, g3, g4, g5⟩ := dEm_spec (oc := oc) (s := a - k) (k := k) (a := a) (by (clear hN; lia)) (by lia) h3 (oc.length + 1) b F (by (clear hj c h1; omega)) (by lia) (fun _ => hN) e2.per
      dsimp only
      rw [e1]
      dsimp only
      rw [g1]
      dsimp only
      have := g3 h1
      rw [dGo_spec j b' (F ++ X) (by (clear g3; lia)) g4, g5, List.append_assoc]
    · rw [dGo, if_neg c]
      have : b = oc.length := by lia
      subst this
      rw [rowN_self]; simp
theorem m_row {oc : List Int} (h2 : 2 ≤ oc.length) : rowN oc 0 oc.length = duval oc := by
  unfold duval
  rw [dGo_spec oc.length 0 [0] (by lia) (Nat.zero_le _), rowN_drop (show 0 < oc.length by lia)]; rfl
theorem m03 : ∀ oc : List Int, 2 ≤ oc.length → oc.length ≤ 12 → Lets oc → Math03 oc := fun oc h2 _ _ =>
  ⟨m_grown oc, m_ways oc, m_ne, m_next, m_row h2, m_long oc, fun w hw => m_runs h2 w hw, fun c h1 h2 => m_joined c h1 h2⟩
end
end Mine
theorem Mine.join03.tw100188255849578119 : True := trivial
theorem Mine.join03.tw10050349827191023047 : True := trivial
theorem Mine.join03.tw10052487019718705855 : True := trivial
theorem Mine.join03.tw10137670107372057649 : True := trivial
theorem Mine.join03.tw10139528736577471501 : True := trivial
theorem Mine.join03.tw10140160346631224193 : True := trivial
theorem Mine.join03.tw10215183640107888513 : True := trivial
theorem Mine.join03.tw10223624711420987108 : True := trivial
theorem Mine.join03.tw1025271416432213258 : True := trivial
theorem Mine.join03.tw10316170528669477233 : True := trivial
theorem Mine.join03.tw10318460010802644609 : True := trivial
theorem Mine.join03.tw10321794163365010563 : True := trivial
theorem Mine.join03.tw10339084291922316182 : True := trivial
theorem Mine.join03.tw1035429858982515734 : True := trivial
theorem Mine.join03.tw1037106609682609398 : True := trivial
theorem Mine.join03.tw10464672113216591140 : True := trivial
theorem Mine.join03.tw10488251416899919042 : True := trivial
theorem Mine.join03.tw10498497508049718900 : True := trivial
theorem Mine.join03.tw10549903940361953634 : True := trivial
theorem Mine.join03.tw10584310490784378182 : True := trivial
theorem Mine.join03.tw10660347311371349996 : True := trivial
theorem Mine.join03.tw10684501116068224549 : True := trivial
theorem Mine.join03.tw10693421144457344722 : True := trivial
theorem Mine.join03.tw10759085393566988383 : True := trivial
theorem Mine.join03.tw10809729525989073370 : True := trivial
theorem Mine.join03.tw10818971318421218223 : True := trivial
theorem Mine.join03.tw10830252732618430265 : True := trivial
theorem Mine.join03.tw10878510125124925997 : True := trivial
theorem Mine.join03.tw10903595497397685861 : True := trivial
theorem Mine.join03.tw10919344276579459130 : True := trivial
theorem Mine.join03.tw10939586091197809296 : True := trivial
theorem Mine.join03.tw11028611739652742155 : True := trivial
theorem Mine.join03.tw11030731338009245706 : True := trivial
theorem Mine.join03.tw11101182204070224006 : True := trivial
theorem Mine.join03.tw11136323770664442691 : True := trivial
theorem Mine.join03.tw11174000619821214627 : True := trivial
theorem Mine.join03.tw11224528222315287211 : True := trivial
theorem Mine.join03.tw11266925811817669385 : True := trivial
theorem Mine.join03.tw11289345136584743113 : True := trivial
theorem Mine.join03.tw11316217422275522110 : True := trivial
theorem Mine.join03.tw1142682703665989586 : True := trivial
theorem Mine.join03.tw11438571681550871103 : True := trivial
theorem Mine.join03.tw11492027194842921355 : True := trivial
theorem Mine.join03.tw11693807517597719219 : True := trivial
theorem Mine.join03.tw1171086441241367079 : True := trivial
theorem Mine.join03.tw11729231676489235026 : True := trivial
theorem Mine.join03.tw11751766789438381456 : True := trivial
theorem Mine.join03.tw11761530350723383537 : True := trivial
theorem Mine.join03.tw11767171029404169847 : True := trivial
theorem Mine.join03.tw11939761733658647790 : True := trivial
theorem Mine.join03.tw11946798847205067024 : True := trivial
theorem Mine.join03.tw11992869505273361357 : True := trivial
theorem Mine.join03.tw12019569222590790722 : True := trivial
theorem Mine.join03.tw12021336826913914161 : True := trivial
theorem Mine.join03.tw12022379908458215116 : True := trivial
theorem Mine.join03.tw1202616012434786856 : True := trivial
theorem Mine.join03.tw12035207962221044846 : True := trivial
theorem Mine.join03.tw12048684462379059671 : True := trivial
theorem Mine.join03.tw12099615946777630927 : True := trivial
theorem Mine.join03.tw12212928447066686147 : True := trivial
theorem Mine.join03.tw12361841654145984450 : True := trivial
theorem Mine.join03.tw12435240038938447379 : True := trivial
theorem Mine.join03.tw12461397831369579220 : True := trivial
theorem Mine.join03.tw12478773897992224219 : True := trivial
theorem Mine.join03.tw12512655400482900276 : True := trivial
theorem Mine.join03.tw12515399841293048881 : True := trivial
theorem Mine.join03.tw12736624677182860934 : True := trivial
theorem Mine.join03.tw12817975060276206579 : True := trivial
theorem Mine.join03.tw12823697026983363472 : True := trivial
theorem Mine.join03.tw12880694927189136328 : True := trivial
theorem Mine.join03.tw12978518595157450507 : True := trivial
theorem Mine.join03.tw13010312362253803459 : True := trivial
theorem Mine.join03.tw13027768220168044316 : True := trivial
theorem Mine.join03.tw13112074049180227329 : True := trivial
theorem Mine.join03.tw13133048763866097541 : True := trivial
theorem Mine.join03.tw13175143919692289304 : True := trivial
theorem Mine.join03.tw13323394243804753186 : True := trivial
theorem Mine.join03.tw13340763163055461836 : True := trivial
theorem Mine.join03.tw13346169530375180009 : True := trivial
theorem Mine.join03.tw13354042605809094198 : True := trivial
theorem Mine.join03.tw13437869602922325354 : True := trivial
theorem Mine.join03.tw135149124706811006 : True := trivial
theorem Mine.join03.tw13523201506942304061 : True := trivial
theorem Mine.join03.tw13568231985180135136 : True := trivial
theorem Mine.join03.tw13616893015496476871 : True := trivial
theorem Mine.join03.tw13634927329677585994 : True := trivial
theorem Mine.join03.tw13667347101596493891 : True := trivial
theorem Mine.join03.tw13670088218981376014 : True := trivial
theorem Mine.join03.tw1367992906240121484 : True := trivial
theorem Mine.join03.tw13684136626212217236 : True := trivial
theorem Mine.join03.tw13703513060116181177 : True := trivial
theorem Mine.join03.tw13710549044689901067 : True := trivial
theorem Mine.join03.tw1371500899177144361 : True := trivial
theorem Mine.join03.tw13742496211385938205 : True := trivial
theorem Mine.join03.tw13840713972234084117 : True := trivial
theorem Mine.join03.tw13841055245101855286 : True := trivial
theorem Mine.join03.tw13866401392941486297 : True := trivial
theorem Mine.join03.tw13947372169424982198 : True := trivial
theorem Mine.join03.tw13966671168221713176 : True := trivial
theorem Mine.join03.tw13967131378711736561 : True := trivial
theorem Mine.join03.tw14024178436185476605 : True := trivial
theorem Mine.join03.tw14055371128592893740 : True := trivial
theorem Mine.join03.tw14126833936461150871 : True := trivial
theorem Mine.join03.tw14246532295222514806 : True := trivial
theorem Mine.join03.tw14263610415607125469 : True := trivial
theorem Mine.join03.tw14347083118304707935 : True := trivial
theorem Mine.join03.tw14571062996641681878 : True := trivial
theorem Mine.join03.tw14596241698615041736 : True := trivial
theorem Mine.join03.tw14597941365116208190 : True := trivial
theorem Mine.join03.tw14660936002440418013 : True := trivial
theorem Mine.join03.tw14682512548596062477 : True := trivial
theorem Mine.join03.tw14713592554800548627 : True := trivial
theorem Mine.join03.tw14779089217368916291 : True := trivial
theorem Mine.join03.tw14844137438944851948 : True := trivial
theorem Mine.join03.tw14868322393621011406 : True := trivial
theorem Mine.join03.tw14960116317706299118 : True := trivial
theorem Mine.join03.tw15017167759990384454 : True := trivial
theorem Mine.join03.tw15025656369679035358 : True := trivial
theorem Mine.join03.tw15047896905969236369 : True := trivial
theorem Mine.join03.tw15076117563191507799 : True := trivial
theorem Mine.join03.tw15155093425532587906 : True := trivial
theorem Mine.join03.tw15223899636323853525 : True := trivial
theorem Mine.join03.tw15262064529846467878 : True := trivial
theorem Mine.join03.tw1538939037138805667 : True := trivial
theorem Mine.join03.tw15409492328785067612 : True := trivial
theorem Mine.join03.tw15412222971228632232 : True := trivial
theorem Mine.join03.tw15431796400448579220 : True := trivial
theorem Mine.join03.tw15432913559730287467 : True := trivial
theorem Mine.join03.tw15442984893380812156 : True := trivial
theorem Mine.join03.tw15458620179259744468 : True := trivial
theorem Mine.join03.tw15487561889667424888 : True := trivial
theorem Mine.join03.tw15507694827441401277 : True := trivial
theorem Mine.join03.tw15527823626775590447 : True := trivial
theorem Mine.join03.tw1553184828492262858 : True := trivial
theorem Mine.join03.tw15572934150819275120 : True := trivial
theorem Mine.join03.tw15598210392924697378 : True := trivial
theorem Mine.join03.tw1567671994914437998 : True := trivial
theorem Mine.join03.tw15687280010490695837 : True := trivial
theorem Mine.join03.tw15718967773655132376 : True := trivial
theorem Mine.join03.tw15808779211495828097 : True := trivial
theorem Mine.join03.tw15929204768666620973 : True := trivial
theorem Mine.join03.tw15956684295242228265 : True := trivial
theorem Mine.join03.tw15960009148315202020 : True := trivial
theorem Mine.join03.tw16037444131812045522 : True := trivial
theorem Mine.join03.tw16182075713021465140 : True := trivial
theorem Mine.join03.tw16200524267786567666 : True := trivial
theorem Mine.join03.tw16225178280694786615 : True := trivial
theorem Mine.join03.tw16225183662652801494 : True := trivial
theorem Mine.join03.tw16319384731186204779 : True := trivial
theorem Mine.join03.tw16383739086763759020 : True := trivial
theorem Mine.join03.tw1643306825976997973 : True := trivial
theorem Mine.join03.tw16452707857992423623 : True := trivial
theorem Mine.join03.tw16491912673804234765 : True := trivial
theorem Mine.join03.tw16517516476752756431 : True := trivial
theorem Mine.join03.tw16554959829906805335 : True := trivial
theorem Mine.join03.tw16634104964569425381 : True := trivial
theorem Mine.join03.tw16643298894299424814 : True := trivial
theorem Mine.join03.tw16646592527094966687 : True := trivial
theorem Mine.join03.tw167060106703750466 : True := trivial
theorem Mine.join03.tw16720751184415344907 : True := trivial
theorem Mine.join03.tw16721152655139649138 : True := trivial
theorem Mine.join03.tw16786675411948129173 : True := trivial
theorem Mine.join03.tw16803180507976079848 : True := trivial
theorem Mine.join03.tw16820973960021492242 : True := trivial
theorem Mine.join03.tw1682290164515533574 : True := trivial
theorem Mine.join03.tw16835639458279278959 : True := trivial
theorem Mine.join03.tw16867534779689491656 : True := trivial
theorem Mine.join03.tw16891979318958364311 : True := trivial
theorem Mine.join03.tw16931785931920715960 : True := trivial
theorem Mine.join03.tw17091537870362308489 : True := trivial
theorem Mine.join03.tw17117159007159514442 : True := trivial
theorem Mine.join03.tw17124179437761098693 : True := trivial
theorem Mine.join03.tw1712782351738295421 : True := trivial
theorem Mine.join03.tw17234195300123311210 : True := trivial
theorem Mine.join03.tw17544168280662092607 : True := trivial
theorem Mine.join03.tw17591125965841618396 : True := trivial
theorem Mine.join03.tw17604644647295803057 : True := trivial
theorem Mine.join03.tw17636961730726613546 : True := trivial
theorem Mine.join03.tw17656441958745762207 : True := trivial
theorem Mine.join03.tw17715006270024296357 : True := trivial
theorem Mine.join03.tw17742782714435227401 : True := trivial
theorem Mine.join03.tw17744781763380753967 : True := trivial
theorem Mine.join03.tw1775675947637760404 : True := trivial
theorem Mine.join03.tw17824348072343682483 : True := trivial
theorem Mine.join03.tw17841255602376837184 : True := trivial
theorem Mine.join03.tw17941890450044662529 : True := trivial
theorem Mine.join03.tw17975803903938070192 : True := trivial
theorem Mine.join03.tw17995978750303178382 : True := trivial
theorem Mine.join03.tw18154261534377151161 : True := trivial
theorem Mine.join03.tw18193202094813528505 : True := trivial
theorem Mine.join03.tw18412387163905161187 : True := trivial
theorem Mine.join03.tw18437998634048000342 : True := trivial
theorem Mine.join03.tw1845212534889058018 : True := trivial
theorem Mine.join03.tw1847505279805860688 : True := trivial
theorem Mine.join03.tw1949939087520063227 : True := trivial
theorem Mine.join03.tw1968765786634464041 : True := trivial
theorem Mine.join03.tw2029162940321697692 : True := trivial
theorem Mine.join03.tw2035092682130499723 : True := trivial
theorem Mine.join03.tw2067240614512657387 : True := trivial
theorem Mine.join03.tw2076766091705359022 : True := trivial
theorem Mine.join03.tw2108329977657694711 : True := trivial
theorem Mine.join03.tw2108890574680115462 : True := trivial
theorem Mine.join03.tw2151855811715056111 : True := trivial
theorem Mine.join03.tw2155562580244271743 : True := trivial
theorem Mine.join03.tw2161528359641331481 : True := trivial
theorem Mine.join03.tw2179057005967637402 : True := trivial
theorem Mine.join03.tw221958975971284271 : True := trivial
theorem Mine.join03.tw22334950714885909 : True := trivial
theorem Mine.join03.tw2273030495490829214 : True := trivial
theorem Mine.join03.tw2301007621841468724 : True := trivial
theorem Mine.join03.tw2333826990678126767 : True := trivial
theorem Mine.join03.tw2422767713197902844 : True := trivial
theorem Mine.join03.tw2446365514549709313 : True := trivial
theorem Mine.join03.tw2563064748620289853 : True := trivial
theorem Mine.join03.tw2612859586790432503 : True := trivial
theorem Mine.join03.tw2623913211192650329 : True := trivial
theorem Mine.join03.tw2660863449241972556 : True := trivial
theorem Mine.join03.tw267207224642079493 : True := trivial
theorem Mine.join03.tw2688614389894978158 : True := trivial
theorem Mine.join03.tw2699349405111003672 : True := trivial
theorem Mine.join03.tw2766500639795922892 : True := trivial
theorem Mine.join03.tw2808747892639182022 : True := trivial
theorem Mine.join03.tw2999715275454596291 : True := trivial
theorem Mine.join03.tw3088355885139702004 : True := trivial
theorem Mine.join03.tw315500403406959856 : True := trivial
theorem Mine.join03.tw3206789989420631137 : True := trivial
theorem Mine.join03.tw3317406179865875131 : True := trivial
theorem Mine.join03.tw3335260665161622215 : True := trivial
theorem Mine.join03.tw3413588971880300045 : True := trivial
theorem Mine.join03.tw3522551661116626828 : True := trivial
theorem Mine.join03.tw3529521673688847626 : True := trivial
theorem Mine.join03.tw3535613865609018693 : True := trivial
theorem Mine.join03.tw3569712749960437394 : True := trivial
theorem Mine.join03.tw3593738104466722475 : True := trivial
theorem Mine.join03.tw3616352922148524685 : True := trivial
theorem Mine.join03.tw3686543109291443234 : True := trivial
theorem Mine.join03.tw3701486272052421732 : True := trivial
theorem Mine.join03.tw3711842462528313285 : True := trivial
theorem Mine.join03.tw3712868027867155434 : True := trivial
theorem Mine.join03.tw37531233852487533 : True := trivial
theorem Mine.join03.tw3808448977006731326 : True := trivial
theorem Mine.join03.tw3848049541683289370 : True := trivial
theorem Mine.join03.tw3899792284466295915 : True := trivial
theorem Mine.join03.tw3909950540967225283 : True := trivial
theorem Mine.join03.tw391769226357735343 : True := trivial
theorem Mine.join03.tw3959362787736006638 : True := trivial
theorem Mine.join03.tw4014903924282597335 : True := trivial
theorem Mine.join03.tw4065471667952542093 : True := trivial
theorem Mine.join03.tw4121117039928323294 : True := trivial
theorem Mine.join03.tw4122307101778316507 : True := trivial
theorem Mine.join03.tw414332023534745148 : True := trivial
theorem Mine.join03.tw4156914452314694434 : True := trivial
theorem Mine.join03.tw4157989544883311797 : True := trivial
theorem Mine.join03.tw4166840163906523000 : True := trivial
theorem Mine.join03.tw4172354011820403126 : True := trivial
theorem Mine.join03.tw4212349285335585578 : True := trivial
theorem Mine.join03.tw4225492726783038524 : True := trivial
theorem Mine.join03.tw4323465629254119122 : True := trivial
theorem Mine.join03.tw4369176276881949444 : True := trivial
theorem Mine.join03.tw4383203804635665225 : True := trivial
theorem Mine.join03.tw4412135052022491714 : True := trivial
theorem Mine.join03.tw4439748315782164448 : True := trivial
theorem Mine.join03.tw4552007389874982879 : True := trivial
theorem Mine.join03.tw4553294737174986563 : True := trivial
theorem Mine.join03.tw4633941497405585894 : True := trivial
theorem Mine.join03.tw4724307568688649580 : True := trivial
theorem Mine.join03.tw4731732689511222033 : True := trivial
theorem Mine.join03.tw4748542755314398979 : True := trivial
theorem Mine.join03.tw4821873131847571703 : True := trivial
theorem Mine.join03.tw4861121543312541128 : True := trivial
theorem Mine.join03.tw4886147580688291397 : True := trivial
theorem Mine.join03.tw4887706616226876564 : True := trivial
theorem Mine.join03.tw4893112221577262113 : True := trivial
theorem Mine.join03.tw4945798664494263222 : True := trivial
theorem Mine.join03.tw5035870684344393890 : True := trivial
theorem Mine.join03.tw5209306949753917222 : True := trivial
theorem Mine.join03.tw5231139046265322671 : True := trivial
theorem Mine.join03.tw5378052001773841362 : True := trivial
theorem Mine.join03.tw5379930424229065655 : True := trivial
theorem Mine.join03.tw5421132312985390841 : True := trivial
theorem Mine.join03.tw5492702629992713748 : True := trivial
theorem Mine.join03.tw5632411807029113784 : True := trivial
theorem Mine.join03.tw5655741200954532643 : True := trivial
theorem Mine.join03.tw5662048687423351030 : True := trivial
theorem Mine.join03.tw5675178254118919371 : True := trivial
theorem Mine.join03.tw5747048507738769497 : True := trivial
theorem Mine.join03.tw5857483108008685111 : True := trivial
theorem Mine.join03.tw588035027151111202 : True := trivial
theorem Mine.join03.tw5890673173253857503 : True := trivial
theorem Mine.join03.tw5924940791151836543 : True := trivial
theorem Mine.join03.tw5925499628908025845 : True := trivial
theorem Mine.join03.tw6011229338084874504 : True := trivial
theorem Mine.join03.tw6062367727620305305 : True := trivial
theorem Mine.join03.tw6079191839305709228 : True := trivial
theorem Mine.join03.tw6151268758409759702 : True := trivial
theorem Mine.join03.tw6233218104703802911 : True := trivial
theorem Mine.join03.tw6249284016536484325 : True := trivial
theorem Mine.join03.tw6320382233948436911 : True := trivial
theorem Mine.join03.tw6326198676769482072 : True := trivial
theorem Mine.join03.tw6331377635714211425 : True := trivial
theorem Mine.join03.tw6355973774418498868 : True := trivial
theorem Mine.join03.tw6379307117847393536 : True := trivial
theorem Mine.join03.tw6386585751952356375 : True := trivial
theorem Mine.join03.tw6435102184364767766 : True := trivial
theorem Mine.join03.tw6571179799202003522 : True := trivial
theorem Mine.join03.tw6607315782472503046 : True := trivial
theorem Mine.join03.tw6654179673690966947 : True := trivial
theorem Mine.join03.tw67931123661993852 : True := trivial
theorem Mine.join03.tw6871108313015871195 : True := trivial
theorem Mine.join03.tw6892509993955293163 : True := trivial
theorem Mine.join03.tw6902714908538897123 : True := trivial
theorem Mine.join03.tw6939018763838688843 : True := trivial
theorem Mine.join03.tw6951057214906420934 : True := trivial
theorem Mine.join03.tw6959076129890867184 : True := trivial
theorem Mine.join03.tw6987993693783695168 : True := trivial
theorem Mine.join03.tw701940630725462315 : True := trivial
theorem Mine.join03.tw7094334421593232670 : True := trivial
theorem Mine.join03.tw7116227858048915139 : True := trivial
theorem Mine.join03.tw7122854074582145486 : True := trivial
theorem Mine.join03.tw7124287292484632096 : True := trivial
theorem Mine.join03.tw7162937465143804028 : True := trivial
theorem Mine.join03.tw7167700819450284639 : True := trivial
theorem Mine.join03.tw7317372074186894119 : True := trivial
theorem Mine.join03.tw7410799773538575525 : True := trivial
theorem Mine.join03.tw7486374670483213434 : True := trivial
theorem Mine.join03.tw7547147977047474325 : True := trivial
theorem Mine.join03.tw7593108408976019909 : True := trivial
theorem Mine.join03.tw7667364505509613658 : True := trivial
theorem Mine.join03.tw7672946367705133812 : True := trivial
theorem Mine.join03.tw7717550492450404965 : True := trivial
theorem Mine.join03.tw7804004980729510782 : True := trivial
theorem Mine.join03.tw7810574186207580733 : True := trivial
theorem Mine.join03.tw783449522336589603 : True := trivial
theorem Mine.join03.tw7939859233954986683 : True := trivial
theorem Mine.join03.tw7944087971617481101 : True := trivial
theorem Mine.join03.tw7952080572905577838 : True := trivial
theorem Mine.join03.tw7975594577494232209 : True := trivial
theorem Mine.join03.tw8155197749138928478 : True := trivial
theorem Mine.join03.tw8181532287017764150 : True := trivial
theorem Mine.join03.tw8214544380541315819 : True := trivial
theorem Mine.join03.tw8245913153838670037 : True := trivial
theorem Mine.join03.tw8353806255803279131 : True := trivial
theorem Mine.join03.tw8373740036052223867 : True := trivial
theorem Mine.join03.tw8413104394763003648 : True := trivial
theorem Mine.join03.tw8435180314125843006 : True := trivial
theorem Mine.join03.tw853474141280327697 : True := trivial
theorem Mine.join03.tw8539947410733694041 : True := trivial
theorem Mine.join03.tw8548007740816992581 : True := trivial
theorem Mine.join03.tw8629792283671431901 : True := trivial
theorem Mine.join03.tw8670550312492036393 : True := trivial
theorem Mine.join03.tw8720251188279498129 : True := trivial
theorem Mine.join03.tw8735990630436535106 : True := trivial
theorem Mine.join03.tw8781953397728523520 : True := trivial
theorem Mine.join03.tw8786214190485780888 : True := trivial
theorem Mine.join03.tw8798422969888578916 : True := trivial
theorem Mine.join03.tw8805928738945124272 : True := trivial
theorem Mine.join03.tw9061855228274354219 : True := trivial
theorem Mine.join03.tw9065397909729589129 : True := trivial
theorem Mine.join03.tw907084491427486090 : True := trivial
theorem Mine.join03.tw9113403979571996516 : True := trivial
theorem Mine.join03.tw911880936756766585 : True := trivial
theorem Mine.join03.tw9253750099770244183 : True := trivial
theorem Mine.join03.tw9274454963351142282 : True := trivial
theorem Mine.join03.tw9340223366711732391 : True := trivial
theorem Mine.join03.tw934377893236689198 : True := trivial
theorem Mine.join03.tw9451854340283973945 : True := trivial
theorem Mine.join03.tw9482509585097976897 : True := trivial
theorem Mine.join03.tw9505502028552940008 : True := trivial
theorem Mine.join03.tw9592817165412928357 : True := trivial
theorem Mine.join03.tw9600761265910773289 : True := trivial
theorem Mine.join03.tw9614014990480183977 : True := trivial
theorem Mine.join03.tw9737221545712448362 : True := trivial
theorem Mine.join03.tw975361567152669872 : True := trivial
theorem Mine.join03.tw9765195259435683839 : True := trivial
theorem Mine.join03.tw9771230368045128208 : True := trivial
theorem Mine.join03.tw9811838123750349671 : True := trivial
theorem Mine.join03.tw9835105756245365454 : True := trivial
theorem Mine.join03.tw9860680770201184211 : True := trivial
theorem Mine.join03.tw9881086851555417128 : True := trivial
theorem Mine.join03.tw9899342727590818345 : True := trivial
theorem Mine.join03.tw992943898293256414 : True := trivial
theorem Mine.join03.tw9943095591295424164 : True := trivial
theorem Mine.join03.tw99991436352843619 : True := trivial
open PySem PySem.W PyProof.Rows
set_option Elab.async true in
set_option maxRecDepth 100000 in
set_option maxHeartbeats 8000000 in
theorem Mine.join03 : PySem.Challenge.rw_xm0991_03.Holds := by
  w_on; o_law; k_head; (case hw => w_witness2)
  k_fill
  intro w s₀ s₁ mg mb G Y fa o pm cd doc dV kV ho hd hcd hD hmg hg args vals as hpre hlay hrd hwl hlo
  have KX := kIn_of Y
  have KX' : (Mine.KP w.params).In s₁.heap := Mine.kp_of KX (by rfl)
  have X := (Ground.X G).1
  have V := (Ground.X G).2
  try w_nolog (first | (have GL := glob_more (Ground.glob G (by first | k_qdec | decide +kernel)) V) | (have GL := glob_more (Ground.glob G (by decide +kernel)) V))
  refine Ground.open G ?_
  intro T B D TE TW
  try (refine guard_noD D (by decide +kernel) ?_; clear D)
  obtain ⟨_, _, M⟩ := bmod_of_top T
  wrow_args hpre hlay hrd hwl hlo
  all_goals (
    first | refine callC_kw (enter_call ?_) | refine enter_call ?_ | refine callC_kw (enter_callW ?_) | refine enter_callW ?_ | w_how)
  rename_i ns hs hlay0 hL1 hr1 hl2 w4 w3 l vs w0 hL ra w1 r0 hI hr2 hc1 hc2
  have hl : s₁.heap.get? l = some (listOf vs.toArray 0) := by
    have w1' : Well w.params s₁.heap (.ref l) (.list (ofPys (List.map PyData.int ns))) := w1
    cases w1' with
    | list h1 h2 =>
      obtain ⟨o, g1, g2, n, g3⟩ := hL
      rw [h1] at g1
      cases g1
      cases g3
      exact h1
  have ok : Mine.Cx.Ok ⟨PySem.Challenge.rw_xm0991_03.row.prog, w, s₁, s₁.heap, mg, mb, mainGlobals⟩ := ⟨T.g, T.b, T.builtins, T.nolimit, KX'⟩
  have e := hmg.symm.trans (Mine.mg_of ok (x := "law") (r := some (.ref 407)) (by rfl))
  cases e
  exact Mine.join_law (n := 7) (by decide) (fun _ => rfl) (postW_of (by first | rfl | wrow_shape) (w_eq_bool (w_res rfl) w_lit) (by rfl)) hg T.g hl hI (fun hβ => Mine.law_ok (n := 0) ok hβ (by omega) Mine.m03)
theorem PySem.Challenge.cw_xm0991_03_holds : PySem.Challenge.rw_xm0991_03.Holds := by
  exact Mine.join03
