import PyProof.Rows.All
import Wide.All
import OpenK.AllK
import Wide.FinOn
import KE.KLcPair
import KE.KRevSl
import Wide.WTab
import PyProof.NeKinds
import KE.KxBytes
import KE.KUnpack
import Lean
import PySem.Challenge.RW_sa0469_01
open PySem PySem.W PySem.Calls PyProof.Rows
set_option Elab.async false
set_option compiler.extract_closed false
set_option genSizeOf false
set_option genSizeOfSpec false
set_option maxRecDepth 100000
set_option linter.all false
namespace Mine
noncomputable abbrev PW : Program := Challenge.pw_sa0469_01
noncomputable def tp (i : Nat) : Stmt := PW.main.body.getD i default
noncomputable def mb (i j : Nat) : Stmt := dite ((tp i).ctorIdx = 2) (fun h => Stmt.ClassDef.elim (motive_2 := fun _ => Stmt) (tp i) h fun _ _ _ b _ _ _ _ _ _ _ => b.getD j default) fun _ => tp i
noncomputable def aOf (s : Stmt) : Arguments := dite (s.ctorIdx = 0) (fun h => Stmt.FunctionDef.elim (motive_2 := fun _ => Arguments) s h fun _ a _ _ _ _ _ _ _ _ => a) fun _ => default
noncomputable def bOf (s : Stmt) : List Stmt := dite (s.ctorIdx = 0) (fun h => Stmt.FunctionDef.elim (motive_2 := fun _ => List Stmt) s h fun _ _ b _ _ _ _ _ _ _ => b) fun _ => []
noncomputable def sOf (s : Stmt) : Scope := dite (s.ctorIdx = 0) (fun h => Stmt.FunctionDef.elim (motive_2 := fun _ => Scope) s h fun _ _ _ _ _ _ s _ _ _ => s) fun _ => default
noncomputable def de (P : Params) (k : Str) (t : Tok) (v : Value) : DictEntry := ⟨PyData.keyHash P k, .str k t, v⟩
noncomputable def km1 : Value := .str "lua.values" 187
noncomputable def km2 : Value := .str "lua.patterns" 220
noncomputable def km3 : Value := .str "law_sa0469_01" 573
noncomputable def kat (l : List Obj) (i : Nat) : Obj := l.getD i default
noncomputable def ktu (l : List Value) : Obj := { cls := .type "tuple", data := .seq l.toArray }
noncomputable def kfe (l : List Value) : Obj := { cls := .none, data := .fields l.toArray }
noncomputable def kcu (s : String) : Str := Str.ofString s
noncomputable def kcd (nm qn : Str) (t : Nat) (ln na g : Int) (r1 : Addr) (b : Bool) (r2 : Addr) (v : List Value) (t2 : Int) (t3 : Nat) : Obj := { cls := .type "code", data := .fields (.str nm t :: .str qn (t + 1) :: .str "/claim/cut.py" (t + 2) :: .int ln 0 :: .int na 0 :: .int 0 0 :: .int 0 0 :: .int g 0 :: .ref r1 :: .bool b :: .int 181 0 :: .ref r2 :: .none :: (v ++ [.int t2 0, .int ln 0, .str "/claim/cut.py" t3])).toArray }
noncomputable def kfd (s : Stmt) (nm qn : Str) : FuncData := { name := nm, qualname := qn, params := aOf s, body := .stmts (bOf s), scope := sOf s, globals := 0, closure := [], defaults := .none, kwdefaults := .none }
noncomputable def kfo (s : Stmt) (nm qn : Str) (m d : Value) (a : Addr) : Obj := { cls := .type "function", data := .func { name := nm, qualname := qn, params := aOf s, body := .stmts (bOf s), scope := sOf s, globals := 3, closure := [], defaults := d, kwdefaults := .none, pyModule := m, code := .ref a } }
noncomputable def kA (s : Stmt) (nm qn : Str) (t : Nat) (ln na : Int) (a : Addr) (m : Value) (vs : List Str) (d : Value := .none) : List Obj := [ktu [], kfe [], ktu ((vs.zipIdx (t + 3)).map fun p => .str p.1 p.2), ktu [], { cls := .none, data := .func (kfd s nm qn) }, kcd nm qn t ln na 3 a true (a + 1) [.ref (a + 2), .ref (a + 3), .ref (a + 4)] ((t + 3 + vs.length : Nat) : Int) (t + 4 + vs.length), kfo s nm qn m d (a + 5)]
noncomputable def kB (s : Stmt) (nm qn : Str) (t : Nat) (ln na : Int) (a : Addr) (m : Value) : List Obj := [ktu [], kfe [], { cls := .none, data := .func (kfd s nm qn) }, kcd nm qn t ln na 3 a true (a + 1) [.none, .none, .ref (a + 2)] ((t + 3 : Nat) : Int) (t + 4), kfo s nm qn m .none (a + 3)]
noncomputable def kd22 : List Obj := kA (mb 1 0) "__init__" "LuaError.__init__" 201 4 2 22 km1 ["self", "value"]
noncomputable def kl30 (P : Params) : List DictEntry := [de P "__module__" 196 (.str "lua.values" 187), de P "__firstlineno__" 200 (.int 2 199), de P "__init__" 208 (.ref 28), de P "__static_attributes__" 212 (.ref 29)]
noncomputable def kd35 : List Obj := kA (tp 18) "is_lower" "is_lower" 254 24 1 35 km2 ["c"]
noncomputable def kd42 : List Obj := kA (tp 19) "is_upper" "is_upper" 261 26 1 42 km2 ["c"]
noncomputable def kd49 : List Obj := kA (tp 20) "is_alpha" "is_alpha" 268 28 1 49 km2 ["c"]
noncomputable def kd56 : List Obj := kA (tp 21) "is_digit" "is_digit" 275 30 1 56 km2 ["c"]
noncomputable def kd63 : List Obj := kA (tp 22) "is_space" "is_space" 282 32 1 63 km2 ["c"]
noncomputable def kd70 : List Obj := kA (tp 23) "is_control" "is_control" 289 34 1 70 km2 ["c"]
noncomputable def kd77 : List Obj := kA (tp 24) "is_punctuation" "is_punctuation" 296 36 1 77 km2 ["c"]
noncomputable def kd84 : List Obj := kA (tp 25) "is_hex" "is_hex" 303 38 1 84 km2 ["c"]
noncomputable def kd91 : List Obj := kA (tp 26) "in_class" "in_class" 310 40 2 91 km2 ["c", "letter", "low", "found"]
noncomputable def kd106 : List Obj := kA (mb 27 0) "__init__" "Matcher.__init__" 333 67 5 106 km2 ["self", "text", "pattern", "depth", "tick", "zero"] (.ref 105)
noncomputable def kd113 : List Obj := kA (mb 27 1) "count" "Matcher.count" 345 78 1 113 km2 ["self"]
noncomputable def kd120 : List Obj := kA (mb 27 2) "reset" "Matcher.reset" 352 82 1 120 km2 ["self"]
noncomputable def kd127 : List Obj := kA (mb 27 3) "at" "Matcher.at" 359 88 2 127 km2 ["self", "p"]
noncomputable def kd134 : List Obj := kA (mb 27 4) "class_end" "Matcher.class_end" 367 91 2 134 km2 ["self", "p", "first", "is_first", "is_escaped"]
noncomputable def kd141 : List Obj := kA (mb 27 5) "in_set" "Matcher.in_set" 378 113 4 141 km2 ["self", "c", "p", "last", "is_wanted", "here"]
noncomputable def kd148 : List Obj := kA (mb 27 6) "is_single" "Matcher.is_single" 390 134 4 148 km2 ["self", "s", "p", "end", "c", "first"]
noncomputable def kd155 : List Obj := kA (mb 27 7) "match" "Matcher.match" 402 146 3 155 km2 ["self", "s", "p", "found"]
noncomputable def kd162 : List Obj := kA (mb 27 8) "match_here" "Matcher.match_here" 412 155 3 162 km2 ["self", "s", "p", "first", "second", "end", "after", "is_here", "found"]
noncomputable def kd169 : List Obj := kA (mb 27 9) "match_special" "Matcher.match_special" 427 193 4 169 km2 ["self", "s", "p", "letter"]
noncomputable def kd176 : List Obj := kA (mb 27 10) "match_balance" "Matcher.match_balance" 437 200 3 176 km2 ["self", "s", "p", "begin", "end", "open_ones", "c"]
noncomputable def kd183 : List Obj := kA (mb 27 11) "match_frontier" "Matcher.match_frontier" 450 220 3 183 km2 ["self", "s", "p", "end", "ahead", "here"]
noncomputable def kd190 : List Obj := kA (mb 27 12) "expand_most" "Matcher.expand_most" 462 230 4 190 km2 ["self", "s", "p", "end", "many", "found"]
noncomputable def kd197 : List Obj := kA (mb 27 13) "expand_least" "Matcher.expand_least" 474 242 4 197 km2 ["self", "s", "p", "end", "found"]
noncomputable def kd204 : List Obj := kA (mb 27 14) "start_capture" "Matcher.start_capture" 485 251 4 204 km2 ["self", "s", "p", "kind", "found"]
noncomputable def kd211 : List Obj := kA (mb 27 15) "end_capture" "Matcher.end_capture" 496 262 3 211 km2 ["self", "s", "p", "number", "found"]
noncomputable def kd218 : List Obj := kA (mb 27 16) "to_close" "Matcher.to_close" 507 270 1 218 km2 ["self", "number"]
noncomputable def kd225 : List Obj := kA (mb 27 17) "match_capture" "Matcher.match_capture" 515 278 3 225 km2 ["self", "s", "digit", "number", "size", "start"]
noncomputable def kd232 : List Obj := kA (mb 27 18) "capture" "Matcher.capture" 527 288 4 232 km2 ["self", "number", "s", "end", "size", "start"]
noncomputable def kd239 : List Obj := kB (mb 27 19) "captures" "Matcher.captures" 539 298 4 239 km2
noncomputable def kd244 : List Obj := kA (mb 27 20) "search" "Matcher.search" 545 302 4 244 km2 ["self", "init", "p", "is_anchored", "s", "end"]
noncomputable def kl252 (P : Params) : List DictEntry := [de P "__module__" 327 (.str "lua.patterns" 220), de P "__firstlineno__" 331 (.int 65 330), de P "__init__" 344 (.ref 112), de P "count" 351 (.ref 119), de P "reset" 358 (.ref 126), de P "at" 366 (.ref 133), de P "class_end" 377 (.ref 140), de P "in_set" 389 (.ref 147), de P "is_single" 401 (.ref 154), de P "match" 411 (.ref 161), de P "match_here" 426 (.ref 168), de P "match_special" 436 (.ref 175), de P "match_balance" 449 (.ref 182), de P "match_frontier" 461 (.ref 189), de P "expand_most" 473 (.ref 196), de P "expand_least" 484 (.ref 203), de P "start_capture" 495 (.ref 210), de P "end_capture" 506 (.ref 217), de P "to_close" 514 (.ref 224), de P "match_capture" 526 (.ref 231), de P "capture" 538 (.ref 238), de P "captures" 544 (.ref 243), de P "search" 556 (.ref 250), de P "__static_attributes__" 565 (.ref 251)]
noncomputable def kd259 : List Obj := kA (tp 30) "_law_spooned" "_law_spooned" 596 315 2 259 km3 ["bowl", "many", "cells", "turn"]
noncomputable def kd266 : List Obj := kA (tp 31) "_law_set_size" "_law_set_size" 606 319 1 266 km3 ["row", "at", "is_first"]
noncomputable def kd273 : List Obj := kA (tp 32) "_law_single_size" "_law_single_size" 615 328 1 273 km3 ["row"]
noncomputable def kd280 : List Obj := kA (tp 33) "_law_item" "_law_item" 622 332 1 280 km3 ["row", "second", "size", "many"]
noncomputable def kd287 : List Obj := kA (tp 34) "_law_items" "_law_items" 632 350 1 287 km3 ["pattern", "found", "at", "thing", "size"]
noncomputable def kd294 : List Obj := kA (tp 35) "_law_fits" "_law_fits" 643 357 2 294 km3 ["single", "octet", "letter", "is_turned", "body", "at", "found"]
noncomputable def kd301 : List Obj := kA (tp 36) "_law_run" "_law_run" 656 376 3 301 km3 ["single", "text", "at", "many"]
noncomputable def kd308 : List Obj := kA (tp 37) "_law_ends" "_law_ends" 666 381 3 308 km3 ["thing", "text", "at", "kind", "many", "ends", "ahead", "here", "open_ones", "end"]
noncomputable def kd315 : List Obj := kB (tp 38) "_law_way" "_law_way" 682 407 4 315 km3
noncomputable def kd320 : List Obj := kB (tp 39) "_law_due" "_law_due" 688 435 2 320 km3
noncomputable def kd325 : List Obj := kA (tp 40) "_law_heard" "_law_heard" 694 449 2 325 km3 ["text", "pattern", "is_bound", "matcher", "found"]
noncomputable def kd332 : List Obj := kB (tp 41) "law" "law" 705 456 1 332 km3
noncomputable def kl3 (P : Params) : List DictEntry := [de P "__name__" 165 (.str "law_sa0469_01" 573), de P "__doc__" 166 .none, de P "__package__" 167 .none, de P "__loader__" 168 (.builtin "__main__.__loader__#opaque"), de P "__spec__" 169 .none, de P "__annotations__" 170 (.ref 6), de P "__builtins__" 171 (.ref 4), de P "__file__" 173 (.str "/claim/cut.py" 172), de P "__cached__" 174 .none, de P "LuaError" 219 (.ref 31), de P "MOST_CAPTURES" 223 (.int 32 222), de P "UNFINISHED" 226 (.int (-1) 225), de P "POSITION" 229 (.int (-2) 228), de P "ESCAPE" 231 (.int 37 230), de P "CARET" 233 (.int 94 232), de P "DOLLAR" 235 (.int 36 234), de P "DOT" 237 (.int 46 236), de P "OPEN" 239 (.int 40 238), de P "CLOSE" 241 (.int 41 240), de P "SET_OPEN" 243 (.int 91 242), de P "SET_CLOSE" 245 (.int 93 244), de P "STAR" 247 (.int 42 246), de P "PLUS" 249 (.int 43 248), de P "MINUS" 251 (.int 45 250), de P "MARK" 253 (.int 63 252), de P "is_lower" 260 (.ref 41), de P "is_upper" 267 (.ref 48), de P "is_alpha" 274 (.ref 55), de P "is_digit" 281 (.ref 62), de P "is_space" 288 (.ref 69), de P "is_control" 295 (.ref 76), de P "is_punctuation" 302 (.ref 83), de P "is_hex" 309 (.ref 90), de P "in_class" 319 (.ref 97), de P "Matcher" 572 (.ref 253), de P "_law_pieces" 595 (.ref 258), de P "_law_spooned" 605 (.ref 265), de P "_law_set_size" 614 (.ref 272), de P "_law_single_size" 621 (.ref 279), de P "_law_item" 631 (.ref 286), de P "_law_items" 642 (.ref 293), de P "_law_fits" 655 (.ref 300), de P "_law_run" 665 (.ref 307), de P "_law_ends" 681 (.ref 314), de P "_law_way" 687 (.ref 319), de P "_law_due" 693 (.ref 324), de P "_law_heard" 704 (.ref 331), de P "law" 710 (.ref 336)]
noncomputable def KF (P : Params) : Frag := [(3, { cls := .type "dict", data := .dict (kl3 P).toArray 48 }),
  (15, { cls := .type "tuple", data := .seq #[.type "Exception"] }),
  (27, kat kd22 5), (28, kat kd22 6),
  (30, { cls := .type "dict", data := .dict (kl30 P ++ [de P "__weakref__" 214 (.ref 32), de P "__doc__" 215 .none]).toArray 3 }),
  (31, { cls := .type "type", data := .cls { name := "LuaError", bases := [.type "Exception"], mro := [.ref 31, .type "Exception", .type "BaseException", .type "object"], ns := 30, qualname := "LuaError" }, slots := #[some (.ref 15), none, some (.str "LuaError" 189), some (.str "LuaError" 197), some (.builtin "Exception.__new__"), some (.bool true)] }),
  (32, { cls := .type "getset_descriptor", data := .fields #[.str "__weakref__" 213, .ref 31, .builtin "ExceptionGroup.__weakref__", .none] }),
  (40, kat kd35 5), (41, kat kd35 6),
  (47, kat kd42 5), (48, kat kd42 6),
  (54, kat kd49 5), (55, kat kd49 6),
  (61, kat kd56 5), (62, kat kd56 6),
  (68, kat kd63 5), (69, kat kd63 6),
  (75, kat kd70 5), (76, kat kd70 6),
  (82, kat kd77 5), (83, kat kd77 6),
  (89, kat kd84 5), (90, kat kd84 6),
  (96, kat kd91 5), (97, kat kd91 6),
  (105, { cls := .type "tuple", data := .seq #[.int 60 332, .none] }),
  (111, kat kd106 5), (112, kat kd106 6),
  (118, kat kd113 5), (119, kat kd113 6),
  (125, kat kd120 5), (126, kat kd120 6),
  (132, kat kd127 5), (133, kat kd127 6),
  (139, kat kd134 5), (140, kat kd134 6),
  (146, kat kd141 5), (147, kat kd141 6),
  (153, kat kd148 5), (154, kat kd148 6),
  (160, kat kd155 5), (161, kat kd155 6),
  (167, kat kd162 5), (168, kat kd162 6),
  (174, kat kd169 5), (175, kat kd169 6),
  (181, kat kd176 5), (182, kat kd176 6),
  (188, kat kd183 5), (189, kat kd183 6),
  (195, kat kd190 5), (196, kat kd190 6),
  (202, kat kd197 5), (203, kat kd197 6),
  (209, kat kd204 5), (210, kat kd204 6),
  (216, kat kd211 5), (217, kat kd211 6),
  (223, kat kd218 5), (224, kat kd218 6),
  (230, kat kd225 5), (231, kat kd225 6),
  (237, kat kd232 5), (238, kat kd232 6),
  (242, kat kd239 3), (243, kat kd239 4),
  (249, kat kd244 5), (250, kat kd244 6),
  (252, { cls := .type "dict", data := .dict (kl252 P ++ [de P "__dict__" 567 (.ref 254), de P "__weakref__" 569 (.ref 255), de P "__doc__" 570 .none]).toArray 4 }),
  (253, { cls := .type "type", data := .cls { name := "Matcher", bases := [.type "object"], mro := [.ref 253, .type "object"], ns := 252, qualname := "Matcher" }, slots := #[none, none, some (.str "Matcher" 320), some (.str "Matcher" 328), some (.builtin "object.__new__"), some (.bool true)] }),
  (254, { cls := .type "getset_descriptor", data := .fields #[.str "__dict__" 566, .ref 253, .builtin "function.__dict__", .builtin "function.__dict__#set"] }),
  (255, { cls := .type "getset_descriptor", data := .fields #[.str "__weakref__" 568, .ref 253, .builtin "ExceptionGroup.__weakref__", .none] }),
  (258, { cls := .type "list", data := .seq #[.bytes #[97] 575, .bytes #[98] 576, .bytes #[49] 577, .bytes #[46] 578, .bytes #[37] 579, .bytes #[42] 580, .bytes #[43] 581, .bytes #[45] 582, .bytes #[63] 583, .bytes #[91, 93, 97, 93] 584, .bytes #[93] 585, .bytes #[94] 586, .bytes #[36] 587, .bytes #[40] 588, .bytes #[41] 589, .bytes #[91] 590, .bytes #[37, 97] 591, .bytes #[37, 98, 40, 49] 592, .bytes #[37, 102, 91, 98, 93] 593, .bytes #[91, 94, 97, 45, 98, 37, 49, 93] 594] }),
  (264, kat kd259 5), (265, kat kd259 6),
  (271, kat kd266 5), (272, kat kd266 6),
  (278, kat kd273 5), (279, kat kd273 6),
  (285, kat kd280 5), (286, kat kd280 6),
  (292, kat kd287 5), (293, kat kd287 6),
  (299, kat kd294 5), (300, kat kd294 6),
  (306, kat kd301 5), (307, kat kd301 6),
  (313, kat kd308 5), (314, kat kd308 6),
  (318, kat kd315 3), (319, kat kd315 4),
  (323, kat kd320 3), (324, kat kd320 4),
  (330, kat kd325 5), (331, kat kd325 6),
  (335, kat kd332 3), (336, kat kd332 4)]
noncomputable def asF : List Addr := [3, 15, 27, 28, 30, 31, 32, 40, 41, 47, 48, 54, 55, 61, 62, 68, 69, 75, 76, 82, 83, 89, 90, 96, 97, 105, 111, 112, 118, 119, 125, 126, 132, 133, 139, 140, 146, 147, 153, 154, 160, 161, 167, 168, 174, 175, 181, 182, 188, 189, 195, 196, 202, 203, 209, 210, 216, 217, 223, 224, 230, 231, 237, 238, 242, 243, 249, 250, 252, 253, 254, 255, 258, 264, 265, 271, 272, 278, 279, 285, 286, 292, 293, 299, 300, 306, 307, 313, 314, 318, 319, 323, 324, 330, 331, 335, 336]
noncomputable def VW : Program := { PW with main := { PW.main with body := (PW.main.body.drop 1).take 1 ++ ((PW.main.body.drop 3).take 25 ++ PW.main.body.drop 29) } }
noncomputable def HK : Hook := kHook KF asF (fun _ => by kernel_rfl)
inductive V where
  | undef | none | bool (b : Bool) | int (i : Int) | bytes (b : List UInt8) | str (s : Str) | tup (l : List V) | lst (l : List V) | ref (a : Addr)
inductive Res (α : Type) where
  | ok (a : α) | err | stuck
noncomputable def Res.bind {α β : Type} : Res α → (α → Res β) → Res β
  | .ok a, f => f a
  | .err, _ => .err
  | .stuck, _ => .stuck
@[simp] theorem Res.bind_ok {α β : Type} (a : α) (f : α → Res β) : (Res.ok a).bind f = f a := rfl
@[simp] theorem Res.bind_err {α β : Type} (f : α → Res β) : (Res.err : Res α).bind f = .err := rfl
@[simp] theorem Res.bind_stuck {α β : Type} (f : α → Res β) : (Res.stuck : Res α).bind f = .stuck := rfl
theorem Res.bind_eq_ok {α β : Type} {m : Res α} {f : α → Res β} {b : β} (h : m.bind f = .ok b) : ∃ a, m = .ok a ∧ f a = .ok b := by
  cases m with
  | ok a => exact ⟨a, rfl, h⟩
  | err => cases h
  | stuck => cases h
theorem Res.bind_eq_err {α β : Type} {m : Res α} {f : α → Res β} (h : m.bind f = .err) : m = .err ∨ ∃ a, m = .ok a ∧ f a = .err := by
  cases m with
  | ok a => exact .inr ⟨a, rfl, h⟩
  | err => exact .inl rfl
  | stuck => cases h
theorem Res.ne_stuck_left {α β : Type} {m : Res α} {f : α → Res β} (h : m.bind f ≠ .stuck) : m ≠ .stuck := fun e => h (by rw [e]; rfl)
mutual
inductive Rep (X : List Addr) (h : Heap) : Value → V → Prop
  | none : Rep X h .none .none
  | bool (b : Bool) : Rep X h (.bool b) (.bool b)
  | int (i : Int) (t : Tok) : Rep X h (.int i t) (.int i)
  | bytes (b : List UInt8) (t : Tok) (hz : b.length ≤ 4096) : Rep X h (.bytes b.toArray t) (.bytes b)
  | str (s : Str) (t : Tok) : Rep X h (.str s t) (.str s)
  | tup {a : Addr} {o : Obj} {n : Nat} {vs : List Value} {l : List V} (ho : h.get? a = some o) (hc : o.cls = .type "tuple") (hd : o.data = .seq vs.toArray n) (hx : a ∉ X) (hl : RepL X h vs l) (hz : l.length ≤ 4096) : Rep X h (.ref a) (.tup l)
  | lst {a : Addr} {o : Obj} {n : Nat} {vs : List Value} {l : List V} (ho : h.get? a = some o) (hc : o.cls = .type "list") (hd : o.data = .seq vs.toArray n) (hx : a ∉ X) (hl : RepL X h vs l) (hz : l.length ≤ 4096) : Rep X h (.ref a) (.lst l)
  | ref (a : Addr) : Rep X h (.ref a) (.ref a)
inductive RepL (X : List Addr) (h : Heap) : List Value → List V → Prop
  | nil : RepL X h [] []
  | cons {v : Value} {x : V} {vs : List Value} {xs : List V} (hv : Rep X h v x) (hs : RepL X h vs xs) : RepL X h (v :: vs) (x :: xs)
end
section
variable {X X' : List Addr} {h h' : Heap} {vs ws : List Value} {l m : List V}
theorem RepL.ind {P : List Value → List V → Prop} (n : P [] []) (c : ∀ {v : Value} {x : V} {vs : List Value} {xs : List V}, Rep X h v x → RepL X h vs xs → P vs xs → P (v :: vs) (x :: xs)) (r : RepL X h vs l) : P vs l :=
  RepL.rec (motive_1 := fun _ _ _ => True) (motive_2 := fun vs l _ => P vs l) trivial (by intros; trivial) (by intros; trivial) (by intros; trivial) (by intros; trivial) (by intros; trivial) (by intros; trivial) (by intros; trivial) n (fun hv hs _ ih => c hv hs ih) r
theorem RepL.length (r : RepL X h vs l) : vs.length = l.length := r.ind (P := fun vs l => vs.length = l.length) rfl fun _ _ ih => congrArg (· + 1) ih
theorem RepL.get {i : Nat} {x : V} (r : RepL X h vs l) : l[i]? = some x → ∃ v, vs[i]? = some v ∧ Rep X h v x :=
  r.ind (P := fun vs l => ∀ i, l[i]? = some x → ∃ v, vs[i]? = some v ∧ Rep X h v x) (fun i e => by cases e) (fun hv _ ih i e => by
    cases i with
    | zero => cases e; exact ⟨_, rfl, hv⟩
    | succ i => exact ih i e) i
theorem RepL.append (r : RepL X h vs l) (y : RepL X h ws m) : RepL X h (vs ++ ws) (l ++ m) := r.ind (P := fun vs l => RepL X h (vs ++ ws) (l ++ m)) y fun hv _ ih => .cons hv ih
theorem RepL.take (n : Nat) (r : RepL X h vs l) : RepL X h (vs.take n) (l.take n) :=
  r.ind (P := fun vs l => ∀ n, RepL X h (vs.take n) (l.take n)) (fun n => Nat.casesOn n RepL.nil fun _ => RepL.nil) (fun hv _ ih n => Nat.casesOn n RepL.nil fun n => RepL.cons hv (ih n)) n
theorem RepL.drop (n : Nat) (r : RepL X h vs l) : RepL X h (vs.drop n) (l.drop n) :=
  r.ind (P := fun vs l => ∀ n, RepL X h (vs.drop n) (l.drop n)) (fun n => Nat.casesOn n RepL.nil fun _ => RepL.nil) (fun hv hs ih n => Nat.casesOn n (RepL.cons hv hs) fun n => ih n) n
noncomputable def RMap (X X' : List Addr) (h h' : Heap) : Prop := ∀ a o xs n, h.get? a = some o → o.data = .seq xs n → a ∉ X → a ∉ X' ∧ ∃ o', h'.get? a = some o' ∧ o'.cls = o.cls ∧ o'.data = o.data
theorem RMap.tup (k : RMap X X' h h') {a : Addr} {o : Obj} {n : Nat} (ho : h.get? a = some o) (hc : o.cls = .type "tuple") (hd : o.data = .seq vs.toArray n) (hx : a ∉ X) (hl : RepL X' h' vs l) (hz : l.length ≤ 4096) : Rep X' h' (.ref a) (.tup l) :=
  let ⟨hx', _, ho', hc', hd'⟩ := k a o _ _ ho hd hx
  .tup ho' (hc'.trans hc) (hd'.trans hd) hx' hl hz
theorem RMap.lst (k : RMap X X' h h') {a : Addr} {o : Obj} {n : Nat} (ho : h.get? a = some o) (hc : o.cls = .type "list") (hd : o.data = .seq vs.toArray n) (hx : a ∉ X) (hl : RepL X' h' vs l) (hz : l.length ≤ 4096) : Rep X' h' (.ref a) (.lst l) :=
  let ⟨hx', _, ho', hc', hd'⟩ := k a o _ _ ho hd hx
  .lst ho' (hc'.trans hc) (hd'.trans hd) hx' hl hz
theorem Rep.map (k : RMap X X' h h') {v : Value} {x : V} (r : Rep X h v x) : Rep X' h' v x :=
  Rep.rec (motive_1 := fun v x _ => Rep X' h' v x) (motive_2 := fun vs l _ => RepL X' h' vs l) .none .bool .int .bytes .str (fun ho hc hd hx _ hz ih => k.tup ho hc hd hx ih hz) (fun ho hc hd hx _ hz ih => k.lst ho hc hd hx ih hz) .ref .nil (fun _ _ a b => .cons a b) r
theorem RepL.map (k : RMap X X' h h') (r : RepL X h vs l) : RepL X' h' vs l := r.ind (P := fun vs l => RepL X' h' vs l) .nil fun hv _ ih => .cons (hv.map k) ih
end
noncomputable def Keep (X : List Addr) (h h' : Heap) : Prop := ∀ b o, h.get? b = some o → b ∉ X → ∃ sl, h'.get? b = some { o with slots := sl } ∧ ((∃ vs, o.data = .fields vs) → sl = o.slots)
noncomputable def Grow (X X' : List Addr) (h : Heap) : Prop := ∀ b ∈ X', b ∈ X ∨ h.get? b = none
theorem Keep.refl (X : List Addr) (h : Heap) : Keep X h h := fun _ o e _ => ⟨o.slots, e, fun _ => rfl⟩
theorem Grow.refl (X : List Addr) (h : Heap) : Grow X X h := fun _ hb => .inl hb
theorem Keep.of_stays {X : List Addr} {h h' : Heap} (k : h.StaysIn h') : Keep X h h' := fun b o e _ => ⟨o.slots, k b o e, fun _ => rfl⟩
theorem Keep.of_same {X : List Addr} {L : Addr} {h h' : Heap} (k : Heap.SameBut L h h') (hL : L ∈ X) : Keep X h h' := fun b o e hb => ⟨o.slots, (k.2 b fun q => hb (q ▸ hL)).trans e, fun _ => rfl⟩
theorem Keep.some_of {X : List Addr} {h h' : Heap} (k : Keep X h h') {b : Addr} {o : Obj} (e : h.get? b = some o) (hb : b ∉ X) : h'.get? b ≠ none := by
  obtain ⟨sl, q, _⟩ := k b o e hb; rw [q]; intro z; cases z
theorem Keep.trans {X X' : List Addr} {h h₁ h₂ : Heap} (k : Keep X h h₁) (g : Grow X X' h) (k' : Keep X' h₁ h₂) : Keep X h h₂ := fun b o e hb => by
  obtain ⟨sl, q, z⟩ := k b o e hb
  obtain ⟨sl', q', z'⟩ := k' b _ q fun hb' => (g b hb').elim hb fun z => by rw [z] at e; cases e
  exact ⟨sl', q', fun hd => (z' hd).trans (z hd)⟩
theorem Grow.trans {X X' X'' Y : List Addr} {h h₁ : Heap} (g : Grow X X' h) (k : Keep Y h h₁) (g' : Grow X' X'' h₁) (hY : ∀ b ∈ Y, b ∈ X ∨ h₁.get? b ≠ none) : Grow X X'' h := fun b hb => by
  rcases g' b hb with q | q
  · exact g b q
  · by_cases hy : b ∈ Y
    · rcases hY b hy with z | z
      · exact .inl z
      · exact absurd q z
    · cases e : h.get? b with
      | none => exact .inr rfl
      | some o => exact absurd q (k.some_of e hy)
theorem Keep.mono {X Y : List Addr} {h h' : Heap} (k : Keep X h h') (s : ∀ b ∈ X, b ∈ Y) : Keep Y h h' := fun b o e hb => k b o e fun q => hb (s b q)
section
variable {X X' Y : List Addr} {h h' : Heap} (k : Keep Y h h') (g : Grow X X' h) (hY : ∀ b ∈ Y, b ∈ X ∨ ∀ o xs n, h.get? b = some o → o.data ≠ .seq xs n)
include k g hY
theorem RMap.of_keep : RMap X X' h h' := fun a o xs n ho hd hx => by
  obtain ⟨sl, q, _⟩ := k a _ ho fun hy => (hY a hy).elim hx fun z => z _ _ _ ho hd
  exact ⟨fun z => (g a z).elim hx fun w => (by rw [w] at ho; cases ho), _, q, rfl, rfl⟩
theorem Rep.keep {v : Value} {x : V} (r : Rep X h v x) : Rep X' h' v x := r.map (.of_keep k g hY)
theorem RepL.keep {vs : List Value} {l : List V} (r : RepL X h vs l) : RepL X' h' vs l := r.map (.of_keep k g hY)
end
structure Gd (KK : Frag) where
  p : Program
  loose : List Str
  mg : Str → Option Value
  mb : Str → Option Value
  g : Heap
  inK : KK.In g
  top : TopRead p loose mg mb g
  last : ∃ o, g.get? (g.objs.size - 1) = some o
noncomputable def tupO (o : Obj) : Prop := o.cls = .type "tuple" ∧ ∃ xs n, o.data = .seq xs n
structure StRep (S : Type) where
  X : Type
  rep : S × X → Heap → Prop
  foot : S × X → List Addr
  stable : ∀ {σ : S × X} {h h' : Heap}, rep σ h → (∀ a o, h.get? a = some o → (a ∈ foot σ ∨ tupO o) → h'.get? a = some o) → rep σ h'
  live : ∀ {σ : S × X} {h : Heap}, rep σ h → ∀ a ∈ foot σ, h.get? a ≠ none
noncomputable abbrev StRep.T {Sy : Type} (R : StRep Sy) : Type := Sy × R.X
@[reducible] noncomputable def RU : StRep Unit := ⟨Unit, fun _ _ => True, fun _ => [], fun _ _ => trivial, fun _ a ha => nomatch ha⟩
structure Cal {KK : Frag} (G : Gd KK) {Sy : Type} (R : StRep Sy) (l : List Env) (h : Heap) (σ : R.T) : Prop where
  base : G.g.StaysIn h
  ff : h.FunFrames G.g l
  nf : ∀ e ∈ l, ∀ b, e.frame = some b → b ∉ R.foot σ
  rep : R.rep σ h
noncomputable def VarAt (env : Env) (h : Heap) (X : List Addr) (x : Str) (v : V) : Prop :=
  (env.kindOf x = some .local ∧ ∃ m vv, h.Ns env.locals m ∧ m x = some vv ∧ Rep X h vv v) ∨
  (env.kindOf x = some .cell ∧ ∃ c vv, env.cells.lookup x = some c ∧ c ∉ X ∧ h.IsCell c (some vv) ∧ Rep X h vv v)
structure Wf {KK : Frag} (G : Gd KK) {Sy : Type} (R : StRep Sy) (env : Env) (vars : List Str) (outer : List Env) (h : Heap) (ρ : List V) (σ : R.T) : Prop where
  above : G.g.objs.size ≤ env.locals
  cal : Cal G R outer h σ
  top : ∃ e o, outer = e :: o ∧ e.frame = env.frame
  nsF : ∃ L m, env.frame = some L ∧ h.Ns L m
  ns : ∃ m, h.Ns env.locals m
  apart : env.locals ∉ R.foot σ
  var : ∀ (i : Nat) (x : Str) (v : V), vars[i]? = some x → ρ[i]? = some v → v ≠ .undef → VarAt env h (R.foot σ) x v
structure AOk (A : Around) (l : List Env) (n : Nat) : Prop where
  frames : A.frames = some l
  handled : A.handled = none
  depth : A.depth + n + 4 < recursionLimit
  units : A.units + 32 * n + 200 < cLine
theorem AOk.le {A : Around} {l : List Env} {n m : Nat} (a : AOk A l n) (h : m ≤ n) : AOk A l m :=
  ⟨a.frames, a.handled, by have := a.depth; omega, by have := a.units; omega⟩
structure Stp {Sy : Type} (R : StRep Sy) (Z : List Addr) (h : Heap) (σ : R.T) (h' : Heap) (σ' : R.T) : Prop where
  keep : Keep (Z ++ R.foot σ) h h'
  grow : Grow (R.foot σ) (R.foot σ') h
noncomputable def Fly (B : Heap) (l : List Env) (L e : Addr) (h : Heap) : Prop :=
  B.StaysIn h ∧ B.get? e = none ∧ h.FunFrames B l ∧
    ((∃ oe vs a0, h.get? e = some oe ∧ oe.cls = .ref 31 ∧ oe.data = .fields vs ∧ vs[0]? = some a0 ∧ vs[1]? = some .none) ∨ (∃ a0, h.TracedW B e (.ref 31) a0) ∨ ∃ a0, h.TracedAtW B e (.ref 31) a0 (rawInt L))
structure Err {KK : Frag} (G : Gd KK) {Sy : Type} (R : StRep Sy) (l : List Env) (L : Addr) (Z : List Addr) (h : Heap) (σ : R.T) (e : Value) (h' : Heap) : Prop where
  at_ : ∃ a B, e = .ref a ∧ Fly B l L a h' ∧ G.g.StaysIn B ∧ (∀ b o, h.get? b = some o → b ∉ R.foot σ → (∃ vs, o.data = .fields vs) → B.get? b = some o)
  keep : Keep (Z ++ R.foot σ) h h'
structure Fn where
  cn : Str
  cs : Scope
  a : Addr
  ccd : Value
  vars : List Str
  isC : Bool := false
structure FOk (f : Fn) : Prop where
  nd : f.vars.Nodup
  kind : f.cs.kind = .function
  nodebug : ∀ x ∈ f.vars, (x == ("__debug__" : Str)) = false
structure Cx where
  cells : List (Str × Addr) := []
  C : Addr := 0
@[reducible] noncomputable def Fn.env (f : Fn) (L : Addr) (cl : Cx) : Env := { envX f.cn f.cs L f.a f.ccd cl.cells with locals := bif f.isC then cl.C else L, func := bif f.isC then none else some f.a }
theorem Fn.loc {f : Fn} {L : Addr} {cl : Cx} (h : f.isC = false) : (f.env L cl).locals = L := by show (bif f.isC then cl.C else L) = L; rw [h]; rfl
noncomputable abbrev Dn (S α : Type) := List V → S → Res (α × S)
noncomputable abbrev Den {Sy : Type} (R : StRep Sy) (α : Type) := Dn Sy α
section judgements
variable (prog : Program) (w : World) {KK : Frag} (G : Gd KK) {Sy : Type} (R : StRep Sy) (f : Fn) (n : Nat)
noncomputable def Snd {α β : Type} (rd : List Addr → Heap → β → α → Prop) (t : Env → Sem β) (F : Den R α) : Prop :=
  ∀ (L : Addr) (cl : Cx) (A : Around) (outer : List Env) (s : Shared) (ρ : List V) (σ : R.T) (Q : β → Shared → Prop) (E : Value → Shared → Prop),
    AOk A outer n → Wf G R (f.env L cl) f.vars outer s.heap ρ σ →
    (∀ v σ' vv h' tk, F ρ σ.1 = .ok (v, σ'.1) → Wf G R (f.env L cl) f.vars outer h' ρ σ' → Stp R [] s.heap σ h' σ' → rd (R.foot σ') h' vv v → Q vv { s with heap := h', toks := tk }) →
    (∀ e h' tk, F ρ σ.1 = .err → Err G R outer L [] s.heap σ e h' → E e { s with heap := h', toks := tk }) →
    F ρ σ.1 ≠ .stuck → wpAny (model prog w) A (t (f.env L cl)) Q E s
@[reducible] noncomputable def rdV : List Addr → Heap → Value → V → Prop := Rep
@[reducible] noncomputable def rdB : List Addr → Heap → Bool → Bool → Prop := fun _ _ b c => b = c
noncomputable def jW (e : Expr) (F : Den R V) : Prop := Snd prog w G R f n rdV (eval e) F
noncomputable def SndT (e : Expr) (F : Den R Bool) : Prop := Snd prog w G R f n rdB (fun env => isTrue e env (eval e env)) F
inductive Out where
  | next | cont | brk | ret (v : V)
noncomputable def rdO : List Addr → Heap → Flow → Out → Prop := fun X h fl o => match fl, o with
  | .next, .next => True
  | .cont, .cont => True
  | .brk, .brk => True
  | .ret vv, .ret v => Rep X h vv v
  | _, _ => False
noncomputable def SndG (t : Env → Sem Flow) (F : Den R (Out × List V)) : Prop :=
  ∀ (L : Addr) (cl : Cx) (A : Around) (outer : List Env) (s : Shared) (ρ : List V) (σ : R.T) (Q : Flow → Shared → Prop) (E : Value → Shared → Prop),
    AOk A outer n → Wf G R (f.env L cl) f.vars outer s.heap ρ σ →
    (∀ o ρ' σ' fl h' tk, F ρ σ.1 = .ok ((o, ρ'), σ'.1) → Wf G R (f.env L cl) f.vars outer h' ρ' σ' → Stp R [L] s.heap σ h' σ' → rdO (R.foot σ') h' fl o → Q fl { s with heap := h', toks := tk }) →
    (∀ e h' tk, F ρ σ.1 = .err → Err G R outer L [L] s.heap σ e h' → E e { s with heap := h', toks := tk }) →
    F ρ σ.1 ≠ .stuck → wpAny (model prog w) A (t (f.env L cl)) Q E s
noncomputable def SndS (st : Stmt) (F : Den R (Out × List V)) : Prop := SndG prog w G R f n (exec st) F
noncomputable def SndB (b : List Stmt) (F : Den R (Out × List V)) : Prop := SndG prog w G R f n (execs b) F
end judgements
section steps
variable {prog : Program} {w : World} {KK : Frag} {G : Gd KK} {Sy : Type} {R : StRep Sy} {f : Fn} {n : Nat} {L : Addr} {cl : Cx} {outer : List Env} {h h₁ h₂ : Heap} {ρ : List V} {σ σ₁ σ₂ : R.T}
theorem Wf.frame {vars : List Str} (W : Wf G R (f.env L cl) vars outer h ρ σ) : ∃ m, h.Ns L m := by
  obtain ⟨L', m, e, hn⟩ := W.nsF
  cases e; exact ⟨m, hn⟩
theorem Wf.F_foot {vars : List Str} (W : Wf G R (f.env L cl) vars outer h ρ σ) : L ∉ R.foot σ := by
  obtain ⟨e, o, rfl, hf⟩ := W.top
  exact W.cal.nf e (.head _) _ hf
theorem Wf.F_dict {vars : List Str} (W : Wf G R (f.env L cl) vars outer h ρ σ) : ∀ o xs k, h.get? L = some o → o.data ≠ .seq xs k := by
  obtain ⟨m, o, es, ep, ho, hd, _⟩ := W.frame
  intro o' xs k e q; rw [ho] at e; cases e; rw [hd] at q; cases q
theorem Wf.F_ne {vars : List Str} (W : Wf G R (f.env L cl) vars outer h ρ σ) : h.get? L ≠ none := by
  obtain ⟨m, o, es, ep, ho, _⟩ := W.frame; rw [ho]; intro z; cases z
theorem Stp.refl {Z : List Addr} : Stp R Z h σ h σ := ⟨.refl _ _, .refl _ _⟩
theorem Stp.mono {Z : List Addr} (a : Stp R [] h σ h₁ σ₁) : Stp R Z h σ h₁ σ₁ := ⟨a.keep.mono fun b hb => List.mem_append_right _ hb, a.grow⟩
theorem Stp.trans {Z : List Addr} {vars : List Str} (a : Stp R Z h σ h₁ σ₁) (W : Wf G R (f.env L cl) vars outer h₁ ρ σ₁) (b : Stp R Z h₁ σ₁ h₂ σ₂) (hZ : ∀ z ∈ Z, z = L := by simp) : Stp R Z h σ h₂ σ₂ := by
  refine ⟨a.keep.trans (X' := Z ++ R.foot σ₁) (fun b hb => ?_) b.keep, a.grow.trans a.keep b.grow fun b hb => ?_⟩
  · rcases List.mem_append.mp hb with hb | hb
    · exact .inl (List.mem_append_left _ hb)
    · exact (a.grow b hb).imp (List.mem_append_right _) id
  · rcases List.mem_append.mp hb with hb | hb
    · rw [hZ b hb]; exact .inr W.F_ne
    · exact .inl hb
theorem Wf.noSeq {Z : List Addr} {vars : List Str} (W : Wf G R (f.env L cl) vars outer h ρ σ) (hZ : ∀ z ∈ Z, z = L := by simp) : ∀ b ∈ Z ++ R.foot σ, b ∈ R.foot σ ∨ ∀ o xs n, h.get? b = some o → o.data ≠ .seq xs n := fun b hb => by
  rcases List.mem_append.mp hb with hb | hb
  · rw [hZ b hb]; exact .inr (Wf.F_dict W)
  · exact .inl hb
theorem Stp.rep {Z : List Addr} {vars : List Str} (a : Stp R Z h σ h₁ σ₁) (W : Wf G R (f.env L cl) vars outer h ρ σ) {v : Value} {x : V} (r : Rep (R.foot σ) h v x) (hZ : ∀ z ∈ Z, z = L := by simp) : Rep (R.foot σ₁) h₁ v x :=
  r.keep a.keep a.grow (W.noSeq hZ)
theorem Stp.repL {Z : List Addr} {vars : List Str} (a : Stp R Z h σ h₁ σ₁) (W : Wf G R (f.env L cl) vars outer h ρ σ) {v : List Value} {x : List V} (r : RepL (R.foot σ) h v x) (hZ : ∀ z ∈ Z, z = L := by simp) : RepL (R.foot σ₁) h₁ v x :=
  r.keep a.keep a.grow (W.noSeq hZ)
theorem Err.mono {Z : List Addr} {l : List Env} {e : Value} (x : Err G R l L [] h σ e h₁) : Err G R l L Z h σ e h₁ := ⟨x.at_, x.keep.mono fun b hb => List.mem_append_right _ hb⟩
theorem Err.after {Z : List Addr} {vars : List Str} {l : List Env} {e : Value} (a : Stp R Z h σ h₁ σ₁) (W : Wf G R (f.env L cl) vars outer h ρ σ) (x : Err G R l L Z h₁ σ₁ e h₂) (hZ : ∀ z ∈ Z, z = L := by simp) : Err G R l L Z h σ e h₂ := by
  obtain ⟨⟨ea, B, he, hf, hg, hb⟩, hk⟩ := x
  refine ⟨⟨ea, B, he, hf, hg, fun b o ho hx hd => ?_⟩, a.keep.trans (fun b hb => ?_) hk⟩
  · by_cases hL : b = L
    · obtain ⟨m, oL, es, ep, hoL, hdL, _⟩ := W.frame
      obtain ⟨vs, hd⟩ := hd
      subst hL
      rw [ho] at hoL; cases hoL; rw [hd] at hdL; cases hdL
    · obtain ⟨sl, q, hz⟩ := a.keep b o ho fun z => (List.mem_append.mp z).elim (fun z => hL (hZ b z)) hx
      have q : _ = some o := (hz hd) ▸ q
      exact hb b _ q (fun z => (a.grow b z).elim hx fun y => by rw [y] at ho; cases ho) hd
  · rcases List.mem_append.mp hb with hb | hb
    · exact .inl (List.mem_append_left _ hb)
    · exact (a.grow b hb).imp (List.mem_append_right _) id
theorem Cal.stays {l : List Env} (c : Cal G R l h σ) (k : h.StaysIn h₁) : Cal G R l h₁ σ :=
  ⟨fun b o e => k b o (c.base b o e), c.ff.of_keeps fun b o e _ => ⟨o, k b o e, rfl⟩, c.nf, R.stable c.rep fun a o e _ => k a o e⟩
theorem VarAt.stays {env : Env} {X : List Addr} {x : Str} {v : V} (y : VarAt env h X x v) (k : h.StaysIn h₁) : VarAt env h₁ X x v := by
  rcases y with ⟨hk, m, vv, hn, hm, r⟩ | ⟨hk, c, vv, hc, hx, hI, r⟩
  · exact .inl ⟨hk, m, vv, hn.keeps k, hm, r.keep (Keep.of_stays (X := X) k) (.refl _ _) fun b hb => .inl hb⟩
  · exact .inr ⟨hk, c, vv, hc, hx, hI.keeps k, r.keep (Keep.of_stays (X := X) k) (.refl _ _) fun b hb => .inl hb⟩
theorem Wf.stays {env : Env} {vars : List Str} (W : Wf G R env vars outer h ρ σ) (k : h.StaysIn h₁) : Wf G R env vars outer h₁ ρ σ :=
  ⟨W.above, W.cal.stays k, W.top, let ⟨L, m, e, hn⟩ := W.nsF; ⟨L, m, e, hn.keeps k⟩, let ⟨m, hn⟩ := W.ns; ⟨m, hn.keeps k⟩, W.apart, fun i x v a b c => (W.var i x v a b c).stays k⟩
theorem Stp.of_stays {Z : List Addr} (k : h.StaysIn h₁) : Stp R Z h σ h₁ σ := ⟨Keep.of_stays k, .refl _ _⟩
theorem StaysIn.refl (h : Heap) : h.StaysIn h := fun _ _ e => e
theorem StaysIn.push (h : Heap) (o : Obj) : h.StaysIn (h.push o) := fun _ _ e => Heap.get?_push_of_some _ e
end steps
section kont
variable {KK : Frag} (G : Gd KK) {Sy : Type} (R : StRep Sy) (f : Fn) (L : Addr) (cl : Cx) (outer : List Env)
structure Kont {α β : Type} (rd : List Addr → Heap → β → α → Prop) (h₀ : Heap) (σ₀ : R.T) (ρ : List V) (s : Shared) (r : Res (α × Sy)) (Q : β → Shared → Prop) (E : Value → Shared → Prop) : Prop where
  ok : ∀ v σ' vv h' tk, r = .ok (v, σ'.1) → Wf G R (f.env L cl) f.vars outer h' ρ σ' → Stp R [] h₀ σ₀ h' σ' → rd (R.foot σ') h' vv v → Q vv { s with heap := h', toks := tk }
  er : ∀ e h' tk, r = .err → Err G R outer L [] h₀ σ₀ e h' → E e { s with heap := h', toks := tk }
  ns : r ≠ .stuck
end kont
section rules
variable {prog : Program} {w : World} {KK : Frag} {G : Gd KK} {Sy : Type} {R : StRep Sy} {f : Fn} {n : Nat}
theorem Snd.mk {α β : Type} {rd : List Addr → Heap → β → α → Prop} {t : Env → Sem β} {F : Den R α}
    (h : ∀ (L : Addr) (cl : Cx) (A : Around) (outer : List Env) (s : Shared) (ρ : List V) (σ : R.T) (Q : β → Shared → Prop) (E : Value → Shared → Prop),
      AOk A outer n → Wf G R (f.env L cl) f.vars outer s.heap ρ σ → Kont G R f L cl outer rd s.heap σ ρ s (F ρ σ.1) Q E → wpAny (model prog w) A (t (f.env L cl)) Q E s) :
    Snd prog w G R f n rd t F := fun L cl A outer s ρ σ Q E hA W hQ hE hS => h L cl A outer s ρ σ Q E hA W ⟨hQ, hE, hS⟩
theorem Snd.run {α β α' β' : Type} {rd : List Addr → Heap → β → α → Prop} {rd' : List Addr → Heap → β' → α' → Prop} {t : Env → Sem β} {F : Den R α} (hs : Snd prog w G R f n rd t F)
    {L : Addr} {cl : Cx} {A : Around} {outer : List Env} {s : Shared} {ρ : List V} {σ : R.T} {h₀ : Heap} {σ₀ : R.T} {Q' : β' → Shared → Prop} {E : Value → Shared → Prop} {k : α × Sy → Res (α' × Sy)} {Q : β → Shared → Prop}
    (hA : AOk A outer n) (W₀ : Wf G R (f.env L cl) f.vars outer h₀ ρ σ₀) (W : Wf G R (f.env L cl) f.vars outer s.heap ρ σ) (S : Stp R [] h₀ σ₀ s.heap σ)
    (K : Kont G R f L cl outer rd' h₀ σ₀ ρ s ((F ρ σ.1).bind k) Q' E)
    (h : ∀ v σ₁ vv h₁ tk, F ρ σ.1 = .ok (v, σ₁.1) → Wf G R (f.env L cl) f.vars outer h₁ ρ σ₁ → Stp R [] s.heap σ h₁ σ₁ → Stp R [] h₀ σ₀ h₁ σ₁ → rd (R.foot σ₁) h₁ vv v →
      Kont G R f L cl outer rd' h₀ σ₀ ρ { s with heap := h₁, toks := tk } (k (v, σ₁.1)) Q' E → Q vv { s with heap := h₁, toks := tk }) : wpAny (model prog w) A (t (f.env L cl)) Q E s :=
  hs L cl A outer s ρ σ Q E hA W
    (fun v σ₁ vv h₁ tk e W₁ S₁ r => h v σ₁ vv h₁ tk e W₁ S₁ (S.trans W S₁) r ⟨fun v' σ' vv' h' tk' e' => K.ok v' σ' vv' h' tk' (by rw [e]; exact e'), fun e₁ h' tk' e' => K.er e₁ h' tk' (by rw [e]; exact e'), fun e' => K.ns (by rw [e]; exact e')⟩)
    (fun e h' tk e₁ x => K.er e h' tk (by rw [e₁]; rfl) (x.after S W₀)) (Res.ne_stuck_left K.ns)
noncomputable def getv (ρ : List V) (i : Nat) : Res V := match ρ[i]? with
  | some .undef => .stuck
  | some v => .ok v
  | none => .stuck
theorem getv_ok {ρ : List V} {i : Nat} {v : V} (h : getv ρ i = .ok v) : ρ[i]? = some v ∧ v ≠ .undef := by
  unfold getv at h
  split at h
  · cases h
  · rename_i v' hv hne
    cases h
    exact ⟨hne, hv⟩
  · cases h
theorem getv_err {ρ : List V} {i : Nat} : getv ρ i ≠ .err := by
  unfold getv; split <;> intro h <;> cases h
noncomputable def jY {Γ : Type} {S : Type} (i : Nat) : Γ → Dn S V := fun γ ρ σ => (getv ρ i).bind fun v => .ok (v, σ)
@[simp] theorem eNameD_ap {Γ : Type} {S : Type} (i : Nat) (γ : Γ) (ρ : List V) (σ : S) : (jY i) γ ρ σ = (getv ρ i).bind fun v => .ok (v, σ) := rfl
theorem jA {Γ : Type} {γ : Γ} {x : Str} {pos : Pos} (i : Nat) (hF : FOk f) (hi : f.vars[i]? = some x := by rfl) :
    jW prog w G R f n (.Name x pos) (jY i γ) := Snd.mk fun L cl A outer s ρ σ Q E hA W K => by
  simp only [eNameD_ap] at K
  have hd := hF.nodebug x (List.mem_of_getElem? hi)
  have hk := hF.kind
  cases hg : getv ρ i with
  | err => exact absurd hg getv_err
  | stuck => exact absurd (by show (getv ρ i).bind _ = _; rw [hg]; rfl) K.ns
  | ok v =>
    obtain ⟨hr, hu⟩ := getv_ok hg
    have K : Kont G R f L cl outer rdV s.heap σ ρ s ((getv ρ i).bind fun v => .ok (v, σ.1)) Q E := K
    rw [hg] at K
    rcases W.var i x v hi hr hu with ⟨hk', m, vv, hn, hm, r⟩ | ⟨hk', c, vv, hc, hx, hI, r⟩
    · exact wpAny_Name (wpAny_loadName_local hk hk' hn hm (K.ok _ _ _ s.heap s.toks rfl W .refl r)) hd
    · exact wpAny_Name (wpAny_loadName_cell hk hk' hc hI (K.ok _ _ _ s.heap s.toks rfl W .refl r)) hd
noncomputable def eIntD {Γ : Type} {S : Type} (i : Int) : Γ → Dn S V := fun γ ρ σ => .ok (.int i, σ)
@[simp] theorem eIntD_ap {Γ : Type} {S : Type} (i : Int) (γ : Γ) (ρ : List V) (σ : S) : (eIntD i) γ ρ σ = .ok (.int i, σ) := rfl
theorem jG {Γ : Type} {γ : Γ} {i : Int} {k : Nat} {pos : Pos} : jW prog w G R f n (.Constant (.int i) k pos) (eIntD i γ) := Snd.mk fun L cl A outer s ρ σ Q E hA W K =>
  wpAny_Constant_int (K.ok _ _ _ s.heap _ rfl W .refl (.int i _))
noncomputable def eBytesD {Γ : Type} {S : Type} (b : List UInt8) : Γ → Dn S V := fun γ ρ σ => .ok (.bytes b, σ)
theorem jZ {Γ : Type} {γ : Γ} {b : List UInt8} {k : Nat} {pos : Pos} (hz : b.length ≤ 4096) : jW prog w G R f n (.Constant (.bytes b) k pos) (eBytesD b γ) := Snd.mk fun L cl A outer s ρ σ Q E hA W K => by
  show wpAny _ A (mkTextBytes b.toArray) Q E s
  exact wpAny_bind (wpAny_fresh (wpAny_pure (K.ok _ _ _ s.heap _ rfl W .refl (.bytes b _ hz))))
noncomputable def eBoolD {Γ : Type} {S : Type} (b : Bool) : Γ → Dn S V := fun γ ρ σ => .ok (.bool b, σ)
theorem eBool {Γ : Type} {γ : Γ} {b : Bool} {k : Nat} {pos : Pos} : jW prog w G R f n (.Constant (.bool b) k pos) (eBoolD b γ) := Snd.mk fun L cl A outer s ρ σ Q E hA W K =>
  wpAny_Constant_bool (K.ok _ _ _ s.heap s.toks rfl W .refl (.bool b))
noncomputable def eNoneD {Γ : Type} {S : Type} : Γ → Dn S V := fun γ ρ σ => .ok (.none, σ)
theorem eNone {Γ : Type} {γ : Γ} {k : Nat} {pos : Pos} : jW prog w G R f n (.Constant .none k pos) (eNoneD γ) := Snd.mk fun L cl A outer s ρ σ Q E hA W K =>
  wpAny_Constant_none (K.ok _ _ _ s.heap s.toks rfl W .refl .none)
noncomputable def eStrD {Γ : Type} {S : Type} (b : Str) : Γ → Dn S V := fun γ ρ σ => .ok (.str b, σ)
theorem eStr {Γ : Type} {γ : Γ} {b : Str} {k : Nat} {pos : Pos} : jW prog w G R f n (.Constant (.str b) k pos) (eStrD b γ) := Snd.mk fun L cl A outer s ρ σ Q E hA W K => by
  show wpAny _ A (mkText b) Q E s
  exact wpAny_mkText (K.ok _ _ _ s.heap _ rfl W .refl (.str b _))
noncomputable def jV {α : Type} : Option α → Res α
  | some a => .ok a
  | none => .stuck
@[simp] theorem ofOpt_some {α : Type} (a : α) : jV (some a) = .ok a := rfl
@[simp] theorem ofOpt_none {α : Type} : jV (none : Option α) = .stuck := rfl
noncomputable def Op2 {α β : Type} (prog : Program) (w : World) (rd : List Addr → Heap → β → α → Prop) (t : Value → Value → Sem β) (ev : V → V → Option α) : Prop :=
  ∀ (A : Around) (s : Shared) (X : List Addr) (a b : Value) (x y : V) (z : α) (Q : β → Shared → Prop) (E : Value → Shared → Prop),
    A.handled = none → A.units + 200 < cLine → (∀ b ∈ X, s.heap.get? b ≠ none) → Rep X s.heap a x → Rep X s.heap b y → ev x y = some z →
    (∀ vv h' tk, s.heap.StaysIn h' → rd X h' vv z → Q vv { s with heap := h', toks := tk }) → wpAny (model prog w) A (t a b) Q E s
noncomputable def Op1 {α β : Type} (prog : Program) (w : World) (rd : List Addr → Heap → β → α → Prop) (t : Value → Sem β) (ev : V → Option α) : Prop :=
  ∀ (A : Around) (s : Shared) (X : List Addr) (a : Value) (x : V) (z : α) (Q : β → Shared → Prop) (E : Value → Shared → Prop),
    A.handled = none → A.units + 200 < cLine → (∀ b ∈ X, s.heap.get? b ≠ none) → Rep X s.heap a x → ev x = some z →
    (∀ vv h' tk, s.heap.StaysIn h' → rd X h' vv z → Q vv { s with heap := h', toks := tk }) → wpAny (model prog w) A (t a) Q E s
section use
variable {L : Addr} {cl : Cx} {A : Around} {outer : List Env} {s : Shared} {ρ : List V} {σ : R.T} {h₀ : Heap} {σ₀ : R.T} {E : Value → Shared → Prop}
theorem Op2.run {α β α' β' : Type} {rd : List Addr → Heap → β → α → Prop} {rd' : List Addr → Heap → β' → α' → Prop} {Q' : β' → Shared → Prop} {k : α → Res (α' × Sy)} {Q : β → Shared → Prop} {t : Value → Value → Sem β} {ev : V → V → Option α} (op : Op2 prog w rd t ev) {a b : Value} {x y : V}
    (hA : AOk A outer n) (W : Wf G R (f.env L cl) f.vars outer s.heap ρ σ) (S : Stp R [] h₀ σ₀ s.heap σ) (ra : Rep (R.foot σ) s.heap a x) (rb : Rep (R.foot σ) s.heap b y)
    (K : Kont G R f L cl outer rd' h₀ σ₀ ρ s ((jV (ev x y)).bind k) Q' E)
    (h : ∀ z vv h₁ tk, ev x y = some z → Wf G R (f.env L cl) f.vars outer h₁ ρ σ → Stp R [] s.heap σ h₁ σ → Stp R [] h₀ σ₀ h₁ σ → rd (R.foot σ) h₁ vv z → Kont G R f L cl outer rd' h₀ σ₀ ρ { s with heap := h₁, toks := tk } (k z) Q' E → Q vv { s with heap := h₁, toks := tk }) : wpAny (model prog w) A (t a b) Q E s := by
  cases e : ev x y with
  | none => rw [e] at K; exact absurd rfl K.ns
  | some z =>
    rw [e] at K
    exact op A s (R.foot σ) a b x y z Q E hA.handled (by have := hA.units; omega) (R.live W.cal.rep) ra rb e fun vv h₁ tk st r => h z vv h₁ tk e (W.stays st) (.of_stays st) (S.trans W (.of_stays st)) r ⟨K.ok, K.er, K.ns⟩
theorem Op1.run {α β α' β' : Type} {rd : List Addr → Heap → β → α → Prop} {rd' : List Addr → Heap → β' → α' → Prop} {Q' : β' → Shared → Prop} {k : α → Res (α' × Sy)} {Q : β → Shared → Prop} {t : Value → Sem β} {ev : V → Option α} (op : Op1 prog w rd t ev) {a : Value} {x : V}
    (hA : AOk A outer n) (W : Wf G R (f.env L cl) f.vars outer s.heap ρ σ) (S : Stp R [] h₀ σ₀ s.heap σ) (ra : Rep (R.foot σ) s.heap a x)
    (K : Kont G R f L cl outer rd' h₀ σ₀ ρ s ((jV (ev x)).bind k) Q' E)
    (h : ∀ z vv h₁ tk, ev x = some z → Wf G R (f.env L cl) f.vars outer h₁ ρ σ → Stp R [] s.heap σ h₁ σ → Stp R [] h₀ σ₀ h₁ σ → rd (R.foot σ) h₁ vv z → Kont G R f L cl outer rd' h₀ σ₀ ρ { s with heap := h₁, toks := tk } (k z) Q' E → Q vv { s with heap := h₁, toks := tk }) : wpAny (model prog w) A (t a) Q E s := by
  cases e : ev x with
  | none => rw [e] at K; exact absurd rfl K.ns
  | some z =>
    rw [e] at K
    exact op A s (R.foot σ) a x z Q E hA.handled (by have := hA.units; omega) (R.live W.cal.rep) ra e fun vv h₁ tk st r => h z vv h₁ tk e (W.stays st) (.of_stays st) (S.trans W (.of_stays st)) r ⟨K.ok, K.er, K.ns⟩
end use
noncomputable def binD {Γ : Type} {S : Type} (Fl : Γ → Dn S V) (Fr : Γ → Dn S V) (ev : V → V → Option V) : Γ → Dn S V := fun γ ρ σ => ((Fl γ) ρ σ).bind fun p => ((Fr γ) ρ p.2).bind fun q => (jV (ev p.1 q.1)).bind fun v => .ok (v, q.2)
theorem kD {Γ : Type} {γ : Γ} {l r : Expr} {op : Operator} {pos : Pos} {Fl Fr : Γ → Den R V} {ev : V → V → Option V} (hop : Op2 prog w Rep (binaryOp op) ev) (hl : jW prog w G R f n l (Fl γ)) (hr : jW prog w G R f n r (Fr γ)) :
    jW prog w G R f n (.BinOp l op r pos) (binD Fl Fr ev γ) := Snd.mk fun L cl A outer s ρ σ Q E hA W K => by
  refine wpAny_BinOp (hl.run hA W W .refl K fun v σ₁ vv h₁ tk₁ e₁ W₁ _ S₁ r₁ K₁ => ?_)
  refine hr.run (s := ⟨_, _, _, _, _⟩) hA W W₁ S₁ K₁ fun v₂ σ₂ vv₂ h₂ tk₂ e₂ W₂ T₂ S₂ r₂ K₂ => ?_
  refine hop.run (s := ⟨_, _, _, _, _⟩) hA W₂ S₂ (T₂.rep W₁ r₁) r₂ K₂ fun z vv₃ h₃ tk₃ e₃ W₃ _ S₃ r₃ K₃ => ?_
  exact K₃.ok _ _ _ _ _ rfl W₃ S₃ r₃
noncomputable def cmpD {Γ : Type} {S : Type} (Fl : Γ → Dn S V) (Fr : Γ → Dn S V) (ev : V → V → Option V) : Γ → Dn S V := fun γ ρ σ => ((Fl γ) ρ σ).bind fun p => ((Fr γ) ρ p.2).bind fun q => (jV (ev p.1 q.1)).bind fun v => .ok (v, q.2)
theorem cmp_ {Γ : Type} {γ : Γ} {l r : Expr} {op : CmpOp} {pos : Pos} {Fl Fr : Γ → Den R V} {ev : V → V → Option V} (hop : Op2 prog w Rep (compareOp op) ev) (hl : jW prog w G R f n l (Fl γ)) (hr : jW prog w G R f n r (Fr γ)) (hb : behindInMarks op r = false) :
    jW prog w G R f n (.Compare l [op] [r] pos) (cmpD Fl Fr ev γ) := Snd.mk fun L cl A outer s ρ σ Q E hA W K => by
  refine wpAny_Compare1 (hl.run hA W W .refl K fun v σ₁ vv h₁ tk₁ e₁ W₁ _ S₁ r₁ K₁ => ?_) hb
  refine hr.run (s := ⟨_, _, _, _, _⟩) hA W W₁ S₁ K₁ fun v₂ σ₂ vv₂ h₂ tk₂ e₂ W₂ T₂ S₂ r₂ K₂ => ?_
  refine hop.run (s := ⟨_, _, _, _, _⟩) hA W₂ S₂ (T₂.rep W₁ r₁) r₂ K₂ fun z vv₃ h₃ tk₃ e₃ W₃ _ S₃ r₃ K₃ => ?_
  exact K₃.ok _ _ _ _ _ rfl W₃ S₃ r₃
noncomputable def truth : V → Option Bool
  | .bool b => some b
  | _ => none
theorem truth_op : Op1 prog w rdB truthy truth := by
  intro A s X a x z Q E hh hu hX r e hQ
  cases r <;> cases e
  exact wpAny_truthy_bool (hQ _ s.heap s.toks (StaysIn.refl _) rfl)
noncomputable def tcmpD {Γ : Type} {S : Type} (Fl : Γ → Dn S V) (Fr : Γ → Dn S V) (ev : V → V → Option V) : Γ → Dn S Bool := fun γ ρ σ => ((Fl γ) ρ σ).bind fun p => ((Fr γ) ρ p.2).bind fun q => (jV (ev p.1 q.1)).bind fun v => (jV (truth v)).bind fun b => .ok (b, q.2)
theorem jI {Γ : Type} {γ : Γ} {l r : Expr} {op : CmpOp} {pos : Pos} {Fl Fr : Γ → Den R V} {ev : V → V → Option V} (hop : Op2 prog w Rep (compareOp op) ev) (hl : jW prog w G R f n l (Fl γ)) (hr : jW prog w G R f n r (Fr γ)) (hb : behindInMarks op r = false) :
    SndT prog w G R f n (.Compare l [op] [r] pos) (tcmpD Fl Fr ev γ) := Snd.mk fun L cl A outer s ρ σ Q E hA W K => by
  refine wpAny_isTrue_Compare1 (hl.run hA W W .refl K fun v σ₁ vv h₁ tk₁ e₁ W₁ _ S₁ r₁ K₁ => ?_) hb
  refine hr.run (s := ⟨_, _, _, _, _⟩) hA W W₁ S₁ K₁ fun v₂ σ₂ vv₂ h₂ tk₂ e₂ W₂ T₂ S₂ r₂ K₂ => ?_
  refine hop.run (s := ⟨_, _, _, _, _⟩) hA W₂ S₂ (T₂.rep W₁ r₁) r₂ K₂ fun z vv₃ h₃ tk₃ e₃ W₃ _ S₃ r₃ K₃ => ?_
  refine truth_op.run (s := ⟨_, _, _, _, _⟩) hA W₃ S₃ r₃ K₃ fun z vv₃ h₃ tk₃ e₃ W₃ _ S₃ r₃ K₃ => ?_
  exact K₃.ok _ _ _ _ _ rfl W₃ S₃ r₃
end rules
section
variable {prog : Program} {w : World} {KK : Frag} {G : Gd KK} {Sy : Type} {R : StRep Sy} {f : Fn} {n : Nat}
theorem Kont.tail {α β : Type} {rd : List Addr → Heap → β → α → Prop} {L : Addr} {cl : Cx} {outer : List Env} {h₀ : Heap} {σ₀ : R.T} {ρ : List V} {s : Shared} {r : Res (α × Sy)} {Q : β → Shared → Prop} {E : Value → Shared → Prop}
    (K : Kont G R f L cl outer rd h₀ σ₀ ρ s r Q E) : Kont G R f L cl outer rd h₀ σ₀ ρ s (r.bind .ok) Q E :=
  ⟨fun v σ' vv h' tk e => K.ok v σ' vv h' tk (by cases r <;> simp_all), fun e h' tk q => K.er e h' tk (by cases r <;> simp_all), fun q => K.ns (by cases r <;> simp_all)⟩
theorem Snd.last {α β : Type} {rd : List Addr → Heap → β → α → Prop} {t : Env → Sem β} {F : Den R α} (hs : Snd prog w G R f n rd t F)
    {L : Addr} {cl : Cx} {A : Around} {outer : List Env} {s : Shared} {ρ : List V} {σ : R.T} {h₀ : Heap} {σ₀ : R.T} {E : Value → Shared → Prop} {Q : β → Shared → Prop}
    (hA : AOk A outer n) (W₀ : Wf G R (f.env L cl) f.vars outer h₀ ρ σ₀) (W : Wf G R (f.env L cl) f.vars outer s.heap ρ σ) (S : Stp R [] h₀ σ₀ s.heap σ)
    (K : Kont G R f L cl outer rd h₀ σ₀ ρ s (F ρ σ.1) Q E) : wpAny (model prog w) A (t (f.env L cl)) Q E s :=
  hs.run hA W₀ W S K.tail fun v₂ σ₂ vv₂ h₂ tk₂ e₂ W₂ T₂ S₂ r₂ K₂ => K₂.ok _ _ _ _ _ rfl W₂ S₂ r₂
noncomputable def tOfD {Γ : Type} {S : Type} (F : Γ → Dn S V) : Γ → Dn S Bool := fun γ ρ σ => ((F γ) ρ σ).bind fun p => (jV (truth p.1)).bind fun b => .ok (b, p.2)
theorem tOf {Γ : Type} {γ : Γ} {e : Expr} {F : Γ → Den R V} (h : jW prog w G R f n e (F γ)) (hp : ∀ env, isTrue e env (eval e env) = (do let v ← eval e env; standAt e.pos; holding [v] (truthy v)) := by intro; rfl) :
    SndT prog w G R f n e (tOfD F γ) := Snd.mk fun L cl A outer s ρ σ Q E hA W K => by
  refine isTrue_plain (h.run hA W W .refl K fun v σ₁ vv h₁ tk₁ e₁ W₁ _ S₁ r₁ K₁ => ?_) (hp _)
  refine truth_op.run (s := ⟨_, _, _, _, _⟩) hA W₁ S₁ r₁ K₁ fun z vv₃ h₃ tk₃ e₃ W₃ _ S₃ r₃ K₃ => ?_
  exact K₃.ok _ _ _ _ _ rfl W₃ S₃ r₃
noncomputable def tNotD {Γ : Type} {S : Type} (F : Γ → Dn S Bool) : Γ → Dn S Bool := fun γ ρ σ => ((F γ) ρ σ).bind fun p => .ok (!p.1, p.2)
theorem tNot {Γ : Type} {γ : Γ} {e : Expr} {pos : Pos} {F : Γ → Den R Bool} (h : SndT prog w G R f n e (F γ)) :
    SndT prog w G R f n (.UnaryOp .Not e pos) (tNotD F γ) := Snd.mk fun L cl A outer s ρ σ Q E hA W K => by
  refine wpAny_isTrue_Not (h.run hA W W .refl K fun v σ₁ vv h₁ tk₁ e₁ W₁ _ S₁ r₁ K₁ => ?_)
  cases r₁
  exact K₁.ok _ _ _ _ _ rfl W₁ S₁ rfl
noncomputable def SndAll (prog : Program) (w : World) {KK : Frag} (G : Gd KK) {Sy : Type} (R : StRep Sy) (f : Fn) (n : Nat) (op : BoolOp) (es : List Expr) (F : Den R Bool) : Prop := Snd prog w G R f n rdB (fun env => allTrue op es env) F
noncomputable def andNilD {Γ : Type} {S : Type} : Γ → Dn S Bool := fun γ ρ σ => .ok (true, σ)
theorem andNil {Γ : Type} {γ : Γ} : SndAll prog w G R f n .And [] (andNilD γ) := Snd.mk fun L cl A outer s ρ σ Q E hA W K => wpAny_allTrue_And_nil (K.ok _ _ _ s.heap s.toks rfl W .refl rfl)
noncomputable def orNilD {Γ : Type} {S : Type} : Γ → Dn S Bool := fun γ ρ σ => .ok (false, σ)
theorem orNil {Γ : Type} {γ : Γ} : SndAll prog w G R f n .Or [] (orNilD γ) := Snd.mk fun L cl A outer s ρ σ Q E hA W K => wpAny_allTrue_Or_nil (K.ok _ _ _ s.heap s.toks rfl W .refl rfl)
noncomputable def andConsD {Γ : Type} {S : Type} (F : Γ → Dn S Bool) (Fs : Γ → Dn S Bool) : Γ → Dn S Bool := fun γ ρ σ => ((F γ) ρ σ).bind fun p => bif p.1 then (Fs γ) ρ p.2 else .ok (false, p.2)
theorem andCons {Γ : Type} {γ : Γ} {e : Expr} {es : List Expr} {F Fs : Γ → Den R Bool} (h : SndT prog w G R f n e (F γ)) (hs : SndAll prog w G R f n .And es (Fs γ)) :
    SndAll prog w G R f n .And (e :: es) (andConsD F Fs γ) := Snd.mk fun L cl A outer s ρ σ Q E hA W K => by
  refine wpAny_allTrue_And_cons (h.run hA W W .refl K fun v σ₁ vv h₁ tk₁ e₁ W₁ _ S₁ r₁ K₁ => ?_)
  cases r₁
  cases v
  · exact K₁.ok _ _ _ _ _ rfl W₁ S₁ rfl
  · exact hs.last (s := ⟨_, _, _, _, _⟩) hA W W₁ S₁ K₁
noncomputable def orConsD {Γ : Type} {S : Type} (F : Γ → Dn S Bool) (Fs : Γ → Dn S Bool) : Γ → Dn S Bool := fun γ ρ σ => ((F γ) ρ σ).bind fun p => bif p.1 then .ok (true, p.2) else (Fs γ) ρ p.2
theorem orCons {Γ : Type} {γ : Γ} {e : Expr} {es : List Expr} {F Fs : Γ → Den R Bool} (h : SndT prog w G R f n e (F γ)) (hs : SndAll prog w G R f n .Or es (Fs γ)) :
    SndAll prog w G R f n .Or (e :: es) (orConsD F Fs γ) := Snd.mk fun L cl A outer s ρ σ Q E hA W K => by
  refine wpAny_allTrue_Or_cons (h.run hA W W .refl K fun v σ₁ vv h₁ tk₁ e₁ W₁ _ S₁ r₁ K₁ => ?_)
  cases r₁
  cases v
  · exact hs.last (s := ⟨_, _, _, _, _⟩) hA W W₁ S₁ K₁
  · exact K₁.ok _ _ _ _ _ rfl W₁ S₁ rfl
theorem tBool {op : BoolOp} {es : List Expr} {pos : Pos} {F : Den R Bool} (h : SndAll prog w G R f n op es F) : SndT prog w G R f n (.BoolOp op es pos) F := fun L cl A outer s ρ σ Q E hA W hQ hE hS =>
  wpAny_isTrue_BoolOp (h L cl A outer s ρ σ Q E hA W hQ hE hS)
noncomputable def ifexpD {Γ : Type} {S : Type} (Ft : Γ → Dn S Bool) (Fa : Γ → Dn S V) (Fb : Γ → Dn S V) : Γ → Dn S V := fun γ ρ σ => ((Ft γ) ρ σ).bind fun p => bif p.1 then (Fa γ) ρ p.2 else (Fb γ) ρ p.2
theorem ifexp_ {Γ : Type} {γ : Γ} {t a b : Expr} {pos : Pos} {Ft : Γ → Den R Bool} {Fa Fb : Γ → Den R V} (ht : SndT prog w G R f n t (Ft γ)) (ha : jW prog w G R f n a (Fa γ)) (hb : jW prog w G R f n b (Fb γ)) :
    jW prog w G R f n (.IfExp t a b pos) (ifexpD Ft Fa Fb γ) := Snd.mk fun L cl A outer s ρ σ Q E hA W K => by
  refine wpAny_IfExp (ht.run hA W W .refl K fun v σ₁ vv h₁ tk₁ e₁ W₁ _ S₁ r₁ K₁ => ?_)
  cases r₁
  cases v
  · exact hb.last (s := ⟨_, _, _, _, _⟩) hA W W₁ S₁ K₁
  · exact ha.last (s := ⟨_, _, _, _, _⟩) hA W W₁ S₁ K₁
noncomputable def eNotD {Γ : Type} {S : Type} (F : Γ → Dn S V) : Γ → Dn S V := fun γ ρ σ => ((F γ) ρ σ).bind fun p => (jV (truth p.1)).bind fun b => .ok (.bool (!b), p.2)
theorem eNot {Γ : Type} {γ : Γ} {e : Expr} {pos : Pos} {F : Γ → Den R V} (h : jW prog w G R f n e (F γ)) :
    jW prog w G R f n (.UnaryOp .Not e pos) (eNotD F γ) := Snd.mk fun L cl A outer s ρ σ Q E hA W K => by
  refine wpAny_UnaryOp (h.run hA W W .refl K fun v σ₁ vv h₁ tk₁ e₁ W₁ _ S₁ r₁ K₁ => ?_)
  refine not_of (truth_op.run (s := ⟨_, _, _, _, _⟩) hA W₁ S₁ r₁ K₁ fun z vv₃ h₃ tk₃ e₃ W₃ _ S₃ r₃ K₃ => ?_)
  cases r₃
  exact K₃.ok _ _ _ _ _ rfl W₃ S₃ (.bool _)
noncomputable def eAndD {Γ : Type} {S : Type} (Fx : Γ → Dn S V) (Fy : Γ → Dn S V) : Γ → Dn S V := fun γ ρ σ => ((Fx γ) ρ σ).bind fun p => (jV (truth p.1)).bind fun b => bif b then (Fy γ) ρ p.2 else .ok (p.1, p.2)
theorem eAnd {Γ : Type} {γ : Γ} {x y : Expr} {pos : Pos} {Fx Fy : Γ → Den R V} (hx : jW prog w G R f n x (Fx γ)) (hy : jW prog w G R f n y (Fy γ)) :
    jW prog w G R f n (.BoolOp .And [x, y] pos) (eAndD Fx Fy γ) := Snd.mk fun L cl A outer s ρ σ Q E hA W K => by
  refine wpAny_And2 (hx.run hA W W .refl K fun v σ₁ vv h₁ tk₁ e₁ W₁ _ S₁ r₁ K₁ => ?_)
  refine truth_op.run (s := ⟨_, _, _, _, _⟩) hA W₁ S₁ r₁ K₁ fun z vv₃ h₃ tk₃ e₃ W₃ T₃ S₃ r₃ K₃ => ?_
  cases r₃
  cases z
  · exact K₃.ok _ _ _ _ _ rfl W₃ S₃ (T₃.rep W₁ r₁)
  · exact hy.last (s := ⟨_, _, _, _, _⟩) hA W W₃ S₃ K₃
noncomputable def eOrD {Γ : Type} {S : Type} (Fx : Γ → Dn S V) (Fy : Γ → Dn S V) : Γ → Dn S V := fun γ ρ σ => ((Fx γ) ρ σ).bind fun p => (jV (truth p.1)).bind fun b => bif b then .ok (p.1, p.2) else (Fy γ) ρ p.2
theorem eOr {Γ : Type} {γ : Γ} {x y : Expr} {pos : Pos} {Fx Fy : Γ → Den R V} (hx : jW prog w G R f n x (Fx γ)) (hy : jW prog w G R f n y (Fy γ)) :
    jW prog w G R f n (.BoolOp .Or [x, y] pos) (eOrD Fx Fy γ) := Snd.mk fun L cl A outer s ρ σ Q E hA W K => by
  refine wpAny_Or2 (hx.run hA W W .refl K fun v σ₁ vv h₁ tk₁ e₁ W₁ _ S₁ r₁ K₁ => ?_)
  refine truth_op.run (s := ⟨_, _, _, _, _⟩) hA W₁ S₁ r₁ K₁ fun z vv₃ h₃ tk₃ e₃ W₃ T₃ S₃ r₃ K₃ => ?_
  cases r₃
  cases z
  · exact hy.last (s := ⟨_, _, _, _, _⟩) hA W W₃ S₃ K₃
  · exact K₃.ok _ _ _ _ _ rfl W₃ S₃ (T₃.rep W₁ r₁)
noncomputable def chainD {Γ : Type} {S : Type} (Fl : Γ → Dn S V) (Fa : Γ → Dn S V) (Fb : Γ → Dn S V) (ev₁ : V → V → Option V) (ev₂ : V → V → Option V) : Γ → Dn S V := fun γ ρ σ => ((Fl γ) ρ σ).bind fun p => ((Fa γ) ρ p.2).bind fun q => (jV (ev₁ p.1 q.1)).bind fun v => (jV (truth v)).bind fun b => bif b then ((Fb γ) ρ q.2).bind fun r => (jV (ev₂ q.1 r.1)).bind fun v => .ok (v, r.2) else .ok (v, q.2)
theorem chain_ {Γ : Type} {γ : Γ} {l r₁ r₂ : Expr} {o₁ o₂ : CmpOp} {pos : Pos} {Fl Fa Fb : Γ → Den R V} {ev₁ ev₂ : V → V → Option V} (h₁ : Op2 prog w Rep (compareOp o₁) ev₁) (h₂ : Op2 prog w Rep (compareOp o₂) ev₂) (hl : jW prog w G R f n l (Fl γ)) (ha : jW prog w G R f n r₁ (Fa γ)) (hb : jW prog w G R f n r₂ (Fb γ))
    (hm : lastMarks [o₁, o₂] [r₁, r₂] = false) :
    jW prog w G R f n (.Compare l [o₁, o₂] [r₁, r₂] pos) (chainD Fl Fa Fb ev₁ ev₂ γ) := Snd.mk fun L cl A outer s ρ σ Q E hA W K => by
  refine Compare_chain (hl.run hA W W .refl K fun v σ₁ vv h₁' tk₁ e₁ W₁ _ S₁ r₁' K₁ => chain_link ?_) hm
  refine ha.run (s := ⟨_, _, _, _, _⟩) hA W W₁ S₁ K₁ fun v₂ σ₂ vv₂ h₂' tk₂ e₂ W₂ T₂ S₂ r₂' K₂ => ?_
  refine h₁.run (s := ⟨_, _, _, _, _⟩) hA W₂ S₂ (T₂.rep W₁ r₁') r₂' K₂ fun z vv₃ h₃ tk₃ e₃ W₃ T₃ S₃ r₃ K₃ => ?_
  refine truth_op.run (s := ⟨_, _, _, _, _⟩) hA W₃ S₃ r₃ K₃ fun z₄ vv₄ h₄ tk₄ e₄ W₄ T₄ S₄ r₄ K₄ => ?_
  cases r₄
  cases z₄
  · exact K₄.ok _ _ _ _ _ rfl W₄ S₄ (T₄.rep W₃ r₃)
  · refine chain_last (hb.run (s := ⟨_, _, _, _, _⟩) hA W W₄ S₄ K₄ fun v₅ σ₅ vv₅ h₅ tk₅ e₅ W₅ T₅ S₅ r₅ K₅ => ?_)
    refine h₂.run (s := ⟨_, _, _, _, _⟩) hA W₅ S₅ (T₅.rep W₄ (T₄.rep W₃ (T₃.rep W₂ r₂'))) r₅ K₅ fun z vv₆ h₆ tk₆ e₆ W₆ T₆ S₆ r₆ K₆ => ?_
    exact K₆.ok _ _ _ _ _ rfl W₆ S₆ r₆
noncomputable def tchainD {Γ : Type} {S : Type} (Fl : Γ → Dn S V) (Fa : Γ → Dn S V) (Fb : Γ → Dn S V) (ev₁ : V → V → Option V) (ev₂ : V → V → Option V) : Γ → Dn S Bool := fun γ ρ σ => ((Fl γ) ρ σ).bind fun p => ((Fa γ) ρ p.2).bind fun q => (jV (ev₁ p.1 q.1)).bind fun v => (jV (truth v)).bind fun b => bif b then ((Fb γ) ρ q.2).bind fun r => (jV (ev₂ q.1 r.1)).bind fun v => (jV (truth v)).bind fun b => .ok (b, r.2) else .ok (false, q.2)
theorem tchain_ {Γ : Type} {γ : Γ} {l r₁ r₂ : Expr} {o₁ o₂ : CmpOp} {pos : Pos} {Fl Fa Fb : Γ → Den R V} {ev₁ ev₂ : V → V → Option V} (h₁ : Op2 prog w Rep (compareOp o₁) ev₁) (h₂ : Op2 prog w Rep (compareOp o₂) ev₂) (hl : jW prog w G R f n l (Fl γ)) (ha : jW prog w G R f n r₁ (Fa γ)) (hb : jW prog w G R f n r₂ (Fb γ))
    (hm : lastMarks [o₁, o₂] [r₁, r₂] = false) :
    SndT prog w G R f n (.Compare l [o₁, o₂] [r₁, r₂] pos) (tchainD Fl Fa Fb ev₁ ev₂ γ) := Snd.mk fun L cl A outer s ρ σ Q E hA W K => by
  refine isTrue_chain (hl.run hA W W .refl K fun v σ₁ vv h₁' tk₁ e₁ W₁ _ S₁ r₁' K₁ => test_link ?_) hm
  refine ha.run (s := ⟨_, _, _, _, _⟩) hA W W₁ S₁ K₁ fun v₂ σ₂ vv₂ h₂' tk₂ e₂ W₂ T₂ S₂ r₂' K₂ => ?_
  refine h₁.run (s := ⟨_, _, _, _, _⟩) hA W₂ S₂ (T₂.rep W₁ r₁') r₂' K₂ fun z vv₃ h₃ tk₃ e₃ W₃ T₃ S₃ r₃ K₃ => ?_
  refine truth_op.run (s := ⟨_, _, _, _, _⟩) hA W₃ S₃ r₃ K₃ fun z₄ vv₄ h₄ tk₄ e₄ W₄ T₄ S₄ r₄ K₄ => ?_
  cases r₄
  cases z₄
  · exact K₄.ok _ _ _ _ _ rfl W₄ S₄ rfl
  · refine test_last (hb.run (s := ⟨_, _, _, _, _⟩) hA W W₄ S₄ K₄ fun v₅ σ₅ vv₅ h₅ tk₅ e₅ W₅ T₅ S₅ r₅ K₅ => ?_)
    refine h₂.run (s := ⟨_, _, _, _, _⟩) hA W₅ S₅ (T₅.rep W₄ (T₄.rep W₃ (T₃.rep W₂ r₂'))) r₅ K₅ fun z vv₆ h₆ tk₆ e₆ W₆ T₆ S₆ r₆ K₆ => ?_
    refine truth_op.run (s := ⟨_, _, _, _, _⟩) hA W₆ S₆ r₆ K₆ fun z₄ vv₄ h₄ tk₄ e₄ W₄ T₄ S₄ r₄ K₄ => ?_
    exact K₄.ok _ _ _ _ _ rfl W₄ S₄ r₄
noncomputable def SndL (prog : Program) (w : World) {KK : Frag} (G : Gd KK) {Sy : Type} (R : StRep Sy) (f : Fn) (n : Nat) (pos : Pos) (es : List Expr) (F : Den R (List V)) : Prop := Snd prog w G R f n RepL (fun env => spliced (backTo pos (starEach es env))) F
noncomputable def lNilD {Γ : Type} {S : Type} : Γ → Dn S (List V) := fun γ ρ σ => .ok ([], σ)
@[simp] theorem lNilD_ap {Γ : Type} {S : Type} (γ : Γ) (ρ : List V) (σ : S) : lNilD γ ρ σ = .ok ([], σ) := rfl
theorem jK {Γ : Type} {γ : Γ} {pos : Pos} : SndL prog w G R f n pos [] (lNilD γ) := Snd.mk fun L cl A outer s ρ σ Q E hA W K => spliced_nil (K.ok _ _ _ s.heap s.toks rfl W .refl .nil)
noncomputable def jM {Γ : Type} {S : Type} (F : Γ → Dn S V) (Fs : Γ → Dn S (List V)) : Γ → Dn S (List V) := fun γ ρ σ => ((F γ) ρ σ).bind fun p => ((Fs γ) ρ p.2).bind fun q => .ok (p.1 :: q.1, q.2)
@[simp] theorem lConsD_ap {Γ : Type} {S : Type} (F : Γ → Dn S V) (Fs : Γ → Dn S (List V)) (γ : Γ) (ρ : List V) (σ : S) : (jM F Fs) γ ρ σ = ((F γ) ρ σ).bind fun p => ((Fs γ) ρ p.2).bind fun q => .ok (p.1 :: q.1, q.2) := rfl
theorem jC {Γ : Type} {γ : Γ} {pos : Pos} {e : Expr} {es : List Expr} {F : Γ → Den R V} {Fs : Γ → Den R (List V)} (h : jW prog w G R f n e (F γ)) (hs : SndL prog w G R f n pos es (Fs γ))
    (hn : ∀ env, starEach (e :: es) env = (false, eval e env) :: starEach es env := by intro; rfl) :
    SndL prog w G R f n pos (e :: es) (jM F Fs γ) := Snd.mk fun L cl A outer s ρ σ Q E hA W K => by
  simp only [lConsD_ap] at K
  show wpAny _ A (spliced (backTo pos (starEach (e :: es) (f.env L cl)))) Q E s
  rw [hn]
  refine spliced_cons (h.run hA W W .refl K fun v σ₁ vv h₁ tk₁ e₁ W₁ _ S₁ r₁ K₁ => ?_)
  refine hs.run (s := ⟨_, _, _, _, _⟩) hA W W₁ S₁ K₁ fun v₂ σ₂ vv₂ h₂ tk₂ e₂ W₂ T₂ S₂ r₂ K₂ => ?_
  exact K₂.ok _ _ _ _ _ rfl W₂ S₂ (.cons (T₂.rep W₁ r₁) r₂)
noncomputable def tupleD {Γ : Type} {S : Type} (F : Γ → Dn S (List V)) : Γ → Dn S V := fun γ ρ σ => ((F γ) ρ σ).bind fun p => if p.1.length ≤ 4096 then .ok (.tup p.1, p.2) else .stuck
@[simp] theorem tupleD_ap {Γ : Type} {S : Type} (F : Γ → Dn S (List V)) (γ : Γ) (ρ : List V) (σ : S) : (tupleD F) γ ρ σ = ((F γ) ρ σ).bind fun p => if p.1.length ≤ 4096 then .ok (.tup p.1, p.2) else .stuck := rfl
theorem tuple_ {Γ : Type} {γ : Γ} {pos : Pos} {k : Nat} {es : List Expr} {F : Γ → Den R (List V)} (h : SndL prog w G R f n pos es (F γ)) :
    jW prog w G R f n (.Tuple es k pos) (tupleD F γ) := Snd.mk fun L cl A outer s ρ σ Q E hA W K => by
  simp only [tupleD_ap] at K
  refine Tuple_ (h.run hA W W .refl K fun v σ₁ vv h₁ tk₁ e₁ W₁ _ S₁ r₁ K₁ => ?_)
  by_cases hz : v.length ≤ 4096
  · simp only [hz, if_true] at K₁
    refine wpAny_newTuple ?_ (by rw [r₁.length, sizeLine_eq]; omega)
    have st := StaysIn.push h₁ { cls := .type "tuple", data := .seq vv.toArray }
    refine K₁.ok _ _ _ _ _ rfl (W₁.stays st) (S₁.trans W₁ (.of_stays st)) (.tup (vs := vv) (n := 0) (Heap.get?_push_size _ rfl) rfl rfl (fun z => ?_) (r₁.keep (Keep.of_stays (X := []) st) (.refl _ _) fun _ hb => nomatch hb) hz)
    obtain ⟨o, ho⟩ := Option.ne_none_iff_exists'.mp (R.live W₁.cal.rep _ z)
    exact absurd (Heap.lt_size ho) (Nat.lt_irrefl _)
  · simp only [hz, if_false] at K₁; exact absurd rfl K₁.ns
noncomputable def listD {Γ : Type} {S : Type} (F : Γ → Dn S (List V)) : Γ → Dn S V := fun γ ρ σ => ((F γ) ρ σ).bind fun p => if p.1.length ≤ 4096 then .ok (.lst p.1, p.2) else .stuck
@[simp] theorem listD_ap {Γ : Type} {S : Type} (F : Γ → Dn S (List V)) (γ : Γ) (ρ : List V) (σ : S) : (listD F) γ ρ σ = ((F γ) ρ σ).bind fun p => if p.1.length ≤ 4096 then .ok (.lst p.1, p.2) else .stuck := rfl
theorem list_ {Γ : Type} {γ : Γ} {pos : Pos} {es : List Expr} {F : Γ → Den R (List V)} (h : SndL prog w G R f n pos es (F γ)) :
    jW prog w G R f n (.List es pos) (listD F γ) := Snd.mk fun L cl A outer s ρ σ Q E hA W K => by
  simp only [listD_ap] at K
  refine List_ (h.run hA W W .refl K fun v σ₁ vv h₁ tk₁ e₁ W₁ _ S₁ r₁ K₁ => ?_)
  by_cases hz : v.length ≤ 4096
  · simp only [hz, if_true] at K₁
    refine wpAny_newList ?_ (by rw [r₁.length, sizeLine_eq]; omega)
    have st := StaysIn.push h₁ { cls := .type "list", data := .seq vv.toArray }
    refine K₁.ok _ _ _ _ _ rfl (W₁.stays st) (S₁.trans W₁ (.of_stays st)) (.lst (vs := vv) (n := 0) (Heap.get?_push_size _ rfl) rfl rfl (fun z => ?_) (r₁.keep (Keep.of_stays (X := []) st) (.refl _ _) fun _ hb => nomatch hb) hz)
    obtain ⟨o, ho⟩ := Option.ne_none_iff_exists'.mp (R.live W₁.cal.rep _ z)
    exact absurd (Heap.lt_size ho) (Nat.lt_irrefl _)
  · simp only [hz, if_false] at K₁; exact absurd rfl K₁.ns
end
theorem ff_mono {base h h' : Heap} (k : ∀ b o, h.get? b = some o → (∀ vs, o.data ≠ .fields vs) → ∃ o', h'.get? b = some o' ∧ ∀ vs, o'.data ≠ .fields vs) : ∀ {l : List Env}, h.FunFrames base l → h'.FunFrames base l
  | [], _ => trivial
  | _ :: _, ⟨hk, ⟨L, o, hf, hn, ho, hd⟩, hr⟩ => let ⟨o', ho', hd'⟩ := k L o ho hd; ⟨hk, ⟨L, o', hf, hn, ho', hd'⟩, ff_mono k hr⟩
theorem ns_unique {h : Heap} {a : Addr} {m m' : Str → Option Value} (x : h.Ns a m) (y : h.Ns a m') : m = m' := by
  obtain ⟨o, es, ep, ho, hd, _, hm⟩ := x
  obtain ⟨o', es', ep', ho', hd', _, hm'⟩ := y
  rw [ho] at ho'; cases ho'
  rw [hd] at hd'; cases hd'
  funext k
  rw [← hm, ← hm']
section
variable {prog : Program} {w : World} {KK : Frag} {G : Gd KK} {Sy : Type} {R : StRep Sy} {f : Fn} {n : Nat}
variable {L : Addr} {cl : Cx} {A : Around} {outer : List Env} {s : Shared} {ρ : List V} {σ : R.T} {h₀ h h' : Heap} {σ₀ σ' : R.T} {E : Value → Shared → Prop}
theorem Wf.base_L (W : Wf G R (f.env L cl) f.vars outer h ρ σ) : G.g.get? L = none := by
  obtain ⟨e, o, rfl, hf⟩ := W.top
  obtain ⟨_, ⟨L', o, hf', hn, _⟩, _⟩ := W.cal.ff
  cases hf.symm.trans hf'; exact hn
theorem Wf.set (W : Wf G R (f.env L cl) f.vars outer h ρ σ) (hC : f.isC = false) {i : Nat} {x : Str} {m : Str → Option Value} {vv : Value} {v : V} (hnd : f.vars.Nodup) (hi : f.vars[i]? = some x) (hk : f.cs.names.lookup x = some .local)
    (hm : h.Ns L m) (r : Rep (R.foot σ) h vv v) (hn : h'.Ns L (fun y => if y = x then some vv else m y)) (hs : Heap.SameBut L h h') : Wf G R (f.env L cl) f.vars outer h' (ρ.set i v) σ := by
  have hL : L ∉ R.foot σ := Wf.F_foot W
  have eL := Fn.loc (L := L) (cl := cl) hC
  have kp : Keep [L] h h' := Keep.of_same hs (.head _)
  have rk : ∀ {a : Value} {y : V}, Rep (R.foot σ) h a y → Rep (R.foot σ) h' a y := fun r => r.keep kp (.refl _ _) fun b hb => by
    rcases List.mem_singleton.mp hb with rfl
    exact .inr (Wf.F_dict W)
  refine ⟨W.above, ⟨fun b o e => ?_, ?_, W.cal.nf, R.stable W.cal.rep fun a o e ha => ?_⟩, W.top, ⟨L, _, rfl, hn⟩, ⟨_, eL.symm ▸ hn⟩, W.apart, fun j y u hj hu hne => ?_⟩
  · exact (hs.2 b fun q => by rw [q, W.base_L] at e; cases e).trans (W.cal.base b o e)
  · refine ff_mono (fun b o e hd => ?_) W.cal.ff
    by_cases q : b = L
    · obtain ⟨oL, es, ep, hoL, hdL, _⟩ := hn
      exact ⟨oL, q ▸ hoL, fun vs z => by rw [hdL] at z; cases z⟩
    · exact ⟨o, (hs.2 b q).trans e, hd⟩
  · exact (hs.2 a fun q => ha.elim (fun ha => hL (q ▸ ha)) fun ⟨_, xs, n, hd⟩ => Wf.F_dict W o xs n (q ▸ e) hd).trans e
  · by_cases q : j = i
    · subst q
      have : y = x := Option.some.inj (hj.symm.trans hi)
      subst this
      have : u = v := by
        rw [List.getElem?_set] at hu
        simp only [if_true] at hu
        split at hu
        · exact (Option.some.inj hu).symm
        · cases hu
      subst this
      exact .inl ⟨hk, _, vv, eL.symm ▸ hn, if_pos rfl, rk r⟩
    · have hyx : y ≠ x := fun z => q (by
        subst z
        exact (List.getElem?_inj (List.getElem?_eq_some_iff.mp hj).1 hnd).mp (hj.trans hi.symm))
      rw [List.getElem?_set_ne (Ne.symm q)] at hu
      rcases W.var j y u hj hu hne with ⟨hk', m', vv', hn', hm', r'⟩ | ⟨hk', c, vv', hc, hx, hI, r'⟩
      · refine .inl ⟨hk', _, vv', eL.symm ▸ hn, ?_, rk r'⟩
        rw [if_neg hyx, ns_unique hm (eL ▸ hn')]; exact hm'
      · obtain ⟨oc, hoc, hdc⟩ := hI
        refine .inr ⟨hk', c, vv', hc, hx, ⟨oc, (hs.2 c fun q => ?_).trans hoc, hdc⟩, rk r'⟩
        obtain ⟨oL, es, ep, hoL, hdL, _⟩ := hm
        rw [q, hoL] at hoc; cases hoc; rw [hdL] at hdc; cases hdc
theorem store_ (W : Wf G R (f.env L cl) f.vars outer s.heap ρ σ) (hC : f.isC = false) {i : Nat} {x : Str} {vv : Value} {v : V} (hnd : f.vars.Nodup) (hi : f.vars[i]? = some x) (hk : f.cs.names.lookup x = some .local) (hkind : f.cs.kind = .function)
    (r : Rep (R.foot σ) s.heap vv v) {Q : Unit → Shared → Prop}
    (h : ∀ h' tk, Wf G R (f.env L cl) f.vars outer h' (ρ.set i v) σ → Stp R [L] s.heap σ h' σ → Q () { s with heap := h', toks := tk }) : wpAny (model prog w) A (storeName (f.env L cl) x vv) Q E s := by
  obtain ⟨m, hm⟩ := W.frame
  have eL := Fn.loc (L := L) (cl := cl) hC
  refine wpAny_storeName_local hk (eL.symm ▸ hm) (fun h' hn hs => h h' _ (W.set hC hnd hi hk hm r (eL ▸ hn) (eL ▸ hs)) ⟨Keep.of_same (show Heap.SameBut L s.heap h' from eL ▸ hs) (.head _), .refl _ _⟩) ?_
  show (f.cs.kind == .class || (f.cs.kind == .module && _)) = false
  rw [hkind]; rfl
structure KontS {KK : Frag} (G : Gd KK) {Sy : Type} (R : StRep Sy) (f : Fn) (L : Addr) (cl : Cx) (outer : List Env) (h₀ : Heap) (σ₀ : R.T) (s : Shared) (r : Res ((Out × List V) × Sy)) (Q : Flow → Shared → Prop) (E : Value → Shared → Prop) : Prop where
  ok : ∀ o ρ' σ' fl h' tk, r = .ok ((o, ρ'), σ'.1) → Wf G R (f.env L cl) f.vars outer h' ρ' σ' → Stp R [L] h₀ σ₀ h' σ' → rdO (R.foot σ') h' fl o → Q fl { s with heap := h', toks := tk }
  er : ∀ e h' tk, r = .err → Err G R outer L [L] h₀ σ₀ e h' → E e { s with heap := h', toks := tk }
  ns : r ≠ .stuck
theorem SndG.mk {t : Env → Sem Flow} {F : Den R (Out × List V)}
    (h : ∀ (L : Addr) (cl : Cx) (A : Around) (outer : List Env) (s : Shared) (ρ : List V) (σ : R.T) (Q : Flow → Shared → Prop) (E : Value → Shared → Prop),
      AOk A outer n → Wf G R (f.env L cl) f.vars outer s.heap ρ σ → KontS G R f L cl outer s.heap σ s (F ρ σ.1) Q E → wpAny (model prog w) A (t (f.env L cl)) Q E s) :
    SndG prog w G R f n t F := fun L cl A outer s ρ σ Q E hA W hQ hE hS => h L cl A outer s ρ σ Q E hA W ⟨hQ, hE, hS⟩
theorem Snd.runS {α β : Type} {rd : List Addr → Heap → β → α → Prop} {t : Env → Sem β} {F : Den R α} (hs : Snd prog w G R f n rd t F) {ρ₀ : List V}
    {k : α × Sy → Res ((Out × List V) × Sy)} {Q' : Flow → Shared → Prop} {Q : β → Shared → Prop}
    (hA : AOk A outer n) (W₀ : Wf G R (f.env L cl) f.vars outer h₀ ρ₀ σ₀) (W : Wf G R (f.env L cl) f.vars outer s.heap ρ σ) (S : Stp R [L] h₀ σ₀ s.heap σ)
    (K : KontS G R f L cl outer h₀ σ₀ s ((F ρ σ.1).bind k) Q' E)
    (h : ∀ v σ₁ vv h₁ tk, F ρ σ.1 = .ok (v, σ₁.1) → Wf G R (f.env L cl) f.vars outer h₁ ρ σ₁ → Stp R [] s.heap σ h₁ σ₁ → Stp R [L] h₀ σ₀ h₁ σ₁ → rd (R.foot σ₁) h₁ vv v →
      KontS G R f L cl outer h₀ σ₀ { s with heap := h₁, toks := tk } (k (v, σ₁.1)) Q' E → Q vv { s with heap := h₁, toks := tk }) : wpAny (model prog w) A (t (f.env L cl)) Q E s :=
  hs L cl A outer s ρ σ Q E hA W
    (fun v σ₁ vv h₁ tk e W₁ S₁ r => h v σ₁ vv h₁ tk e W₁ S₁ (S.trans W S₁.mono) r ⟨fun o ρ' σ' fl h' tk' e' => K.ok o ρ' σ' fl h' tk' (by rw [e]; exact e'), fun e₁ h' tk' e' => K.er e₁ h' tk' (by rw [e]; exact e'), fun e' => K.ns (by rw [e]; exact e')⟩)
    (fun e h' tk e₁ x => K.er e h' tk (by rw [e₁]; rfl) (x.mono.after S W₀)) (Res.ne_stuck_left K.ns)
theorem SndG.runS {t : Env → Sem Flow} {F : Den R (Out × List V)} (hs : SndG prog w G R f n t F) {ρ₀ : List V}
    {k : (Out × List V) × Sy → Res ((Out × List V) × Sy)} {Q' : Flow → Shared → Prop} {Q : Flow → Shared → Prop}
    (hA : AOk A outer n) (W₀ : Wf G R (f.env L cl) f.vars outer h₀ ρ₀ σ₀) (W : Wf G R (f.env L cl) f.vars outer s.heap ρ σ) (S : Stp R [L] h₀ σ₀ s.heap σ)
    (K : KontS G R f L cl outer h₀ σ₀ s ((F ρ σ.1).bind k) Q' E)
    (h : ∀ o ρ₁ σ₁ fl h₁ tk, F ρ σ.1 = .ok ((o, ρ₁), σ₁.1) → Wf G R (f.env L cl) f.vars outer h₁ ρ₁ σ₁ → Stp R [L] s.heap σ h₁ σ₁ → Stp R [L] h₀ σ₀ h₁ σ₁ → rdO (R.foot σ₁) h₁ fl o →
      KontS G R f L cl outer h₀ σ₀ { s with heap := h₁, toks := tk } (k ((o, ρ₁), σ₁.1)) Q' E → Q fl { s with heap := h₁, toks := tk }) : wpAny (model prog w) A (t (f.env L cl)) Q E s :=
  hs L cl A outer s ρ σ Q E hA W
    (fun o ρ₁ σ₁ fl h₁ tk e W₁ S₁ r => h o ρ₁ σ₁ fl h₁ tk e W₁ S₁ (S.trans W S₁) r ⟨fun o ρ' σ' fl h' tk' e' => K.ok o ρ' σ' fl h' tk' (by rw [e]; exact e'), fun e₁ h' tk' e' => K.er e₁ h' tk' (by rw [e]; exact e'), fun e' => K.ns (by rw [e]; exact e')⟩)
    (fun e h' tk e₁ x => K.er e h' tk (by rw [e₁]; rfl) (x.after S W₀)) (Res.ne_stuck_left K.ns)
theorem KontS.tail {r : Res ((Out × List V) × Sy)} {Q : Flow → Shared → Prop} (K : KontS G R f L cl outer h₀ σ₀ s r Q E) : KontS G R f L cl outer h₀ σ₀ s (r.bind .ok) Q E :=
  ⟨fun v ρ' σ' vv h' tk e => K.ok v ρ' σ' vv h' tk (by cases r <;> simp_all), fun e h' tk q => K.er e h' tk (by cases r <;> simp_all), fun q => K.ns (by cases r <;> simp_all)⟩
theorem SndG.last {t : Env → Sem Flow} {F : Den R (Out × List V)} (hs : SndG prog w G R f n t F) {ρ₀ : List V} {Q : Flow → Shared → Prop}
    (hA : AOk A outer n) (W₀ : Wf G R (f.env L cl) f.vars outer h₀ ρ₀ σ₀) (W : Wf G R (f.env L cl) f.vars outer s.heap ρ σ) (S : Stp R [L] h₀ σ₀ s.heap σ)
    (K : KontS G R f L cl outer h₀ σ₀ s (F ρ σ.1) Q E) : wpAny (model prog w) A (t (f.env L cl)) Q E s :=
  hs.runS hA W₀ W S K.tail fun o ρ₁ σ₁ fl h₁ tk e W₁ S₁ S₂ r K' => K'.ok _ _ _ _ _ _ rfl W₁ S₂ r
end
section
variable {prog : Program} {w : World} {KK : Frag} {G : Gd KK} {Sy : Type} {R : StRep Sy} {f : Fn} {n : Nat}
noncomputable def bNilD {Γ : Type} {S : Type} : Γ → Dn S (Out × List V) := fun γ ρ σ => .ok ((.next, ρ), σ)
theorem jF {Γ : Type} {γ : Γ} : SndB prog w G R f n [] (bNilD γ) := SndG.mk fun L cl A outer s ρ σ Q E hA W K => wpAny_execs_nil (K.ok _ _ _ _ s.heap s.toks rfl W .refl trivial)
noncomputable def onNext {S : Type} (p : (Out × List V) × S) (k : List V → S → Res ((Out × List V) × S)) : Res ((Out × List V) × S) := match p.1.1 with
  | .next => k p.1.2 p.2
  | _ => .ok p
@[simp] theorem onNext_next {S : Type} (ρ : List V) (σ : S) (k : List V → S → Res ((Out × List V) × S)) : onNext ((.next, ρ), σ) k = k ρ σ := rfl
@[simp] theorem onNext_ret {S : Type} (v : V) (ρ : List V) (σ : S) (k : List V → S → Res ((Out × List V) × S)) : onNext ((.ret v, ρ), σ) k = .ok ((.ret v, ρ), σ) := rfl
@[simp] theorem onNext_cont {S : Type} (ρ : List V) (σ : S) (k : List V → S → Res ((Out × List V) × S)) : onNext ((.cont, ρ), σ) k = .ok ((.cont, ρ), σ) := rfl
@[simp] theorem onNext_brk {S : Type} (ρ : List V) (σ : S) (k : List V → S → Res ((Out × List V) × S)) : onNext ((.brk, ρ), σ) k = .ok ((.brk, ρ), σ) := rfl
noncomputable def jO {Γ : Type} {S : Type} (F : Γ → Dn S (Out × List V)) (Fs : Γ → Dn S (Out × List V)) : Γ → Dn S (Out × List V) := fun γ ρ σ => ((F γ) ρ σ).bind fun p => onNext p (Fs γ)
@[simp] theorem bConsD_ap {Γ : Type} {S : Type} (F : Γ → Dn S (Out × List V)) (Fs : Γ → Dn S (Out × List V)) (γ : Γ) (ρ : List V) (σ : S) : (jO F Fs) γ ρ σ = ((F γ) ρ σ).bind fun p => onNext p (Fs γ) := rfl
theorem jB {Γ : Type} {γ : Γ} {st : Stmt} {b : List Stmt} {F Fs : Γ → Den R (Out × List V)} (h : SndS prog w G R f n st (F γ)) (hs : SndB prog w G R f n b (Fs γ)) :
    SndB prog w G R f n (st :: b) (jO F Fs γ) := SndG.mk fun L cl A outer s ρ σ Q E hA W K => by
  refine wpAny_execs_cons (h.runS hA W W .refl K fun o ρ₁ σ₁ fl h₁ tk e W₁ _ S₁ r K₁ => ?_)
  cases o <;> cases fl <;> first | exact r.elim | skip
  · exact hs.last (s := ⟨_, _, _, _, _⟩) hA W W₁ S₁ K₁
  · exact K₁.ok _ _ _ _ _ _ rfl W₁ S₁ trivial
  · exact K₁.ok _ _ _ _ _ _ rfl W₁ S₁ trivial
  · exact K₁.ok _ _ _ _ _ _ rfl W₁ S₁ r
noncomputable def sIfD {Γ : Type} {S : Type} (Ft : Γ → Dn S Bool) (Fa : Γ → Dn S (Out × List V)) (Fb : Γ → Dn S (Out × List V)) : Γ → Dn S (Out × List V) := fun γ ρ σ => ((Ft γ) ρ σ).bind fun p => bif p.1 then (Fa γ) ρ p.2 else (Fb γ) ρ p.2
theorem sIf {Γ : Type} {γ : Γ} {t : Expr} {a b : List Stmt} {pos : Pos} {Ft : Γ → Den R Bool} {Fa Fb : Γ → Den R (Out × List V)} (ht : SndT prog w G R f n t (Ft γ)) (ha : SndB prog w G R f n a (Fa γ)) (hb : SndB prog w G R f n b (Fb γ)) :
    SndS prog w G R f n (.If t a b pos) (sIfD Ft Fa Fb γ) := SndG.mk fun L cl A outer s ρ σ Q E hA W K => by
  refine wpAny_If (ht.runS hA W W .refl K fun v σ₁ vv h₁ tk₁ e₁ W₁ _ S₁ r₁ K₁ => ?_)
  cases r₁
  cases v
  · exact hb.last (s := ⟨_, _, _, _, _⟩) hA W W₁ S₁ K₁
  · exact ha.last (s := ⟨_, _, _, _, _⟩) hA W W₁ S₁ K₁
noncomputable def sRetD {Γ : Type} {S : Type} (F : Γ → Dn S V) : Γ → Dn S (Out × List V) := fun γ ρ σ => ((F γ) ρ σ).bind fun p => .ok ((.ret p.1, ρ), p.2)
theorem sRet {Γ : Type} {γ : Γ} {e : Expr} {pos : Pos} {F : Γ → Den R V} (h : jW prog w G R f n e (F γ)) : SndS prog w G R f n (.Return (some e) pos) (sRetD F γ) := SndG.mk fun L cl A outer s ρ σ Q E hA W K => by
  refine wpAny_Return_some (h.runS hA W W .refl K fun v σ₁ vv h₁ tk₁ e₁ W₁ _ S₁ r₁ K₁ => ?_)
  exact K₁.ok _ _ _ (.ret vv) _ _ rfl W₁ S₁ r₁
noncomputable def sContD {Γ : Type} {S : Type} : Γ → Dn S (Out × List V) := fun γ ρ σ => .ok ((.cont, ρ), σ)
theorem sCont {Γ : Type} {γ : Γ} {pos : Pos} : SndS prog w G R f n (.Continue pos) (sContD γ) := SndG.mk fun L cl A outer s ρ σ Q E hA W K => wpAny_Continue (K.ok _ _ _ .cont s.heap s.toks rfl W .refl trivial)
noncomputable def sSetD {Γ : Type} {S : Type} (F : Γ → Dn S V) (i : Nat) : Γ → Dn S (Out × List V) := fun γ ρ σ => ((F γ) ρ σ).bind fun p => .ok ((.next, ρ.set i p.1), p.2)
theorem sSet {Γ : Type} {γ : Γ} {x : Str} {pos' pos : Pos} {e : Expr} {F : Γ → Den R V} (i : Nat) (hF : FOk f) (h : jW prog w G R f n e (F γ)) (hi : f.vars[i]? = some x := by rfl) (hk : f.cs.names.lookup x = some .local := by decide +kernel) (hC : f.isC = false := by rfl)
    (hsw : ∀ env, swapsWith e (some (.Name x pos')) pos.line env = pure false := by intro; rfl) :
    SndS prog w G R f n (.Assign [.Name x pos'] e pos) (sSetD F i γ) := SndG.mk fun L cl A outer s ρ σ Q E hA W K => by
  refine wpAny_Assign_Name (h.runS hA W W .refl K fun v σ₁ vv h₁ tk₁ e₁ W₁ _ S₁ r₁ K₁ => ?_) (hsw _)
  refine store_ (s := ⟨_, _, _, _, _⟩) W₁ hC hF.nd hi hk hF.kind r₁ fun h₂ tk₂ W₂ S₂ => ?_
  exact K₁.ok _ _ _ .next _ _ rfl W₂ (S₁.trans W₁ S₂) trivial
noncomputable def sAugD {Γ : Type} {S : Type} (F : Γ → Dn S V) (ev : V → V → Option V) (i : Nat) : Γ → Dn S (Out × List V) := fun γ ρ σ => (getv ρ i).bind fun a => ((F γ) ρ σ).bind fun p => (jV (ev a p.1)).bind fun v => .ok ((.next, ρ.set i v), p.2)
@[simp] theorem sAugD_ap {Γ : Type} {S : Type} (F : Γ → Dn S V) (ev : V → V → Option V) (i : Nat) (γ : Γ) (ρ : List V) (σ : S) : (sAugD F ev i) γ ρ σ = (getv ρ i).bind fun a => ((F γ) ρ σ).bind fun p => (jV (ev a p.1)).bind fun v => .ok ((.next, ρ.set i v), p.2) := rfl
theorem sAug {Γ : Type} {γ : Γ} {x : Str} {op : Operator} {pos' pos : Pos} {e : Expr} {F : Γ → Den R V} {ev : V → V → Option V} (i : Nat) (hF : FOk f) (hop : Op2 prog w Rep (inplaceOp op) ev) (h : jW prog w G R f n e (F γ)) (hi : f.vars[i]? = some x := by rfl) (hk : f.cs.names.lookup x = some .local := by decide +kernel) (hC : f.isC = false := by rfl) :
    SndS prog w G R f n (.AugAssign (.Name x pos') op e pos) (sAugD F ev i γ) := SndG.mk fun L cl A outer s ρ σ Q E hA W K => by
  simp only [sAugD_ap] at K
  have hnd := hF.nd
  have hkind := hF.kind
  cases hg : getv ρ i with
  | err => exact absurd hg getv_err
  | stuck => exact absurd (by show (getv ρ i).bind _ = _; rw [hg]; rfl) K.ns
  | ok a =>
    obtain ⟨hr, hu⟩ := getv_ok hg
    have K : KontS G R f L cl outer s.heap σ s ((getv ρ i).bind fun a => ((F γ) ρ σ.1).bind fun p => (jV (ev a p.1)).bind fun v => .ok ((.next, ρ.set i v), p.2)) Q E := K
    rw [hg] at K
    have K : KontS G R f L cl outer s.heap σ s (((F γ) ρ σ.1).bind fun p => (jV (ev a p.1)).bind fun v => .ok ((.next, ρ.set i v), p.2)) Q E := K
    refine wpAny_AugAssign_Name ?_
    rcases W.var i x a hi hr hu with ⟨hk', m, vv, hn, hm, r⟩ | ⟨hk', c, vv, hc, hx, hI, r⟩
    · refine wpAny_loadName_local hkind hk' hn hm ?_
      refine h.runS hA W W .refl K fun v σ₁ vv₁ h₁ tk₁ e₁ W₁ T₁ S₁ r₁ K₁ => ?_
      cases e₂ : ev a v with
      | none => simp only [e₂] at K₁; exact absurd rfl K₁.ns
      | some z =>
        simp only [e₂] at K₁
        refine hop A _ (R.foot σ₁) vv vv₁ a v z _ _ hA.handled (by have := hA.units; omega) (R.live W₁.cal.rep) (T₁.rep W r) r₁ e₂ fun vv₂ h₂ tk₂ st r₂ => ?_
        refine store_ (s := ⟨_, _, _, _, _⟩) (W₁.stays st) hC hnd hi hk hkind r₂ fun h₃ tk₃ W₃ S₃ => ?_
        exact K₁.ok _ _ _ .next _ _ rfl W₃ ((S₁.trans W₁ (.of_stays st)).trans (W₁.stays st) S₃) trivial
    · exact absurd (hk'.symm.trans hk) (by intro z; cases z)
end
section exc
variable {M : Model} {A : Around} {E : Value → Shared → Prop} {s : Shared} {B : Heap} {env : Env} {outer : List Env} {L e : Addr}
theorem noteFrame_frame {v : Value} {env env' : Env} (h : env'.frame = env.frame) : noteFrame v env' = noteFrame v env := by
  unfold noteFrame PySem.frameOf; rw [h]
theorem Fly.noted {Q : Unit → Shared → Prop} (hfr : A.frames = some (env :: outer)) (hf : env.frame = some L) (x : Fly B (env :: outer) L e s.heap)
    (hQ : ∀ h' a0, B.StaysIn h' → h'.FunFrames B (env :: outer) → h'.TracedAtW B e (.ref 31) a0 (rawInt L) → s.heap.UpToSlots h' → Q () { s with heap := h' }) : wpAny M A (noteFrame (.ref e) env) Q E s := by
  obtain ⟨hb, hn, hl, ⟨oe, vs, a0, he, hc, hd, h0, h1⟩ | ⟨a0, ht⟩ | ⟨a0, ht⟩⟩ := x
  · unfold noteFrame
    simp only [hf]
    refine wpAny_bind (wpAny_field he hd h1 ?_)
    rw [if_neg (by decide)]
    refine wpAny_entryW hfr hl hf he hb hn hd (Array.getElem?_eq_some_iff.mp h1).1 h0 fun h' ⟨k1, k2, k3, k4⟩ => hQ h' a0 k1 k2 (hc ▸ k3) k4
  · exact wpAny_noteFrame_onW hfr hl hf ht hb hn fun h' ⟨k1, k2, k3, k4⟩ => hQ h' a0 k1 k2 k3 k4
  · exact wpAny_noteFrame_againW hf ht (hQ s.heap a0 hb hl ht (.refl _))
theorem cameBack_held {a0 : Value} (hf : env.frame = some L) (hb : B.StaysIn s.heap) (hl : s.heap.FunFrames B outer) (ht : s.heap.TracedAtW B e (.ref 31) a0 (rawInt L))
    (hQ : ∀ h', B.StaysIn h' → h'.FunFrames B outer → h'.TracedAtW B e (.ref 31) a0 (rawInt L) → s.heap.UpToSlots h' → E (.ref e) { s with heap := h' }) : cameBackBy M A env E (.ref e) s := by
  obtain ⟨oe, vs, T, oT, ts, he, hcls, hd, h1, hnT, hTe, hT, hdT, h3⟩ := ht
  have hsz3 : 3 < ts.size := (Array.getElem?_eq_some_iff.mp h3).1
  have other : ∀ b, b ≠ T → (s.heap.update T (Obj.mapFields (·.setIfInBounds 3 ((some L : Option Addr).elim Value.none fun f => rawInt f)))).get? b = s.heap.get? b :=
    fun b hb => Heap.get?_update_other _ _ (Ne.symm hb)
  have noRecord : ∀ b o, s.heap.get? b = some o → (∀ vs, o.data ≠ .fields vs) → b ≠ T := fun b o hb hnf q => by
    rw [q, hT] at hb; injection hb with hb; subst hb; exact hnf ts hdT
  unfold cameBackBy
  refine wpAny_bind (wpAny_field he hd h1 ?_)
  rw [if_neg (show ¬ ((Value.ref T == Value.none) = true) from by simp)]
  unfold setFlight
  refine wpAny_bind (wpAny_field he hd h1 ?_)
  rw [if_pos (show (Value.ref T != Value.none) = true from by simp), hf]
  refine wpAny_setField hT hdT hsz3 (hQ _ (fun b o hbo => (other b fun q => by rw [q, hnT] at hbo; cases hbo).trans (hb b o hbo))
    (hl.of_keeps fun b o hb hnf => ⟨o, (other b (noRecord b o hb hnf)).trans hb, rfl⟩) ?_ fun b o hb hnf => ⟨o.slots, (other b (noRecord b o hb hnf)).trans hb⟩)
  exact ⟨oe, vs, T, _, _, (other e (Ne.symm hTe)).trans he, hcls, hd, h1, hnT, hTe, Heap.get?_update_self _ hT (Obj.isFreed_of_fields (Obj.data_mapFields hdT _)), Obj.data_mapFields hdT _, by simp [hsz3]⟩
theorem Fly.left {Q : Unit → Shared → Prop} (hfr : A.frames = some (env :: outer)) (hf : env.frame = some L) (x : Fly B (env :: outer) L e s.heap)
    (hQ : ∀ h' a0, B.StaysIn h' → h'.FunFrames B outer → h'.TracedW B e (.ref 31) a0 → s.heap.UpToSlots h' → Q () { s with heap := h' }) : wpAny M A (leaving env (.ref e)) Q E s := by
  have x' := x
  obtain ⟨hb, hn, hl, ⟨oe, vs, a0, he, hc, hd, h0, h1⟩ | ⟨a0, ht⟩ | ⟨a0, ht⟩⟩ := x
  · exact wpAny_leaving_firstW hfr hl hf he hb hn hd h1 h0 fun h' ⟨k1, ⟨_, _, k2⟩, k3, k4⟩ => hQ h' a0 k1 k2 (hc ▸ k3) k4
  · exact wpAny_leaves_onW hfr hf ⟨hb, hn, hl, ht⟩ fun h' ⟨k1, _, k2, k3⟩ k4 => hQ h' a0 k1 k2 k3 k4
  · unfold leaving
    refine wpAny_bind (wpAny_noteFrame_againW hf ht ?_)
    exact wpAny_landsW ⟨hb, hn, hl, ht⟩ fun h' ⟨k1, _, ⟨_, _, k2⟩, k3⟩ k4 => hQ h' a0 k1 k2 k3 k4
end exc
section
variable {prog : Program} {w : World} {KK : Frag} {G : Gd KK} {Sy : Type} {R : StRep Sy} {f : Fn} {n : Nat}
variable {L : Addr} {cl : Cx} {A : Around} {outer : List Env} {s : Shared} {ρ : List V} {σ : R.T} {h₀ h h' : Heap} {σ₀ σ' : R.T} {E : Value → Shared → Prop}
theorem keep_on {X : List Addr} {h h₁ h₂ B : Heap} (k : Keep X h h₁) (hX : ∀ b ∈ X, ∀ o, h.get? b = some o → (∃ vs, o.data = .fields vs) → b ∉ X → False) (hB : ∀ b o, h.get? b = some o → b ∉ X → (∃ vs, o.data = .fields vs) → B.get? b = some o)
    (st : B.StaysIn h₂) (u : h₁.UpToSlots h₂) : Keep X h h₂ := fun b o ho hb => by
  by_cases hd : ∃ vs, o.data = .fields vs
  · exact ⟨o.slots, st b _ (hB b o ho hb hd), fun _ => rfl⟩
  · obtain ⟨sl, q, _⟩ := k b o ho hb
    obtain ⟨sl', q'⟩ := u b _ q fun vs z => hd ⟨vs, z⟩
    exact ⟨sl', q', fun z => absurd z hd⟩
theorem Err.passes {Z : List Addr} {e : Value} (hA : AOk A outer n) (T : ∃ e o, outer = e :: o ∧ e.frame = (f.env L cl).frame) (x : Err G R outer L Z h σ e s.heap)
    (hE : ∀ h' tk, Err G R outer L Z h σ e h' → E e { s with heap := h', toks := tk }) : notedBy (model prog w) A (f.env L cl) (cameBackBy (model prog w) A (f.env L cl) E) e s := by
  obtain ⟨⟨a, B, rfl, hf, hg, hc⟩, hk⟩ := x
  obtain ⟨fe, o, rfl, he⟩ := T
  show wpAny _ _ (noteFrame (.ref a) (f.env L cl)) _ _ _
  rw [noteFrame_frame he.symm]
  refine Fly.noted hA.frames he hf fun h₁ a0 b1 f1 t1 u1 => ?_
  refine cameBack_held (outer := fe :: o) (s := { s with heap := h₁ }) rfl b1 f1 t1 fun h₂ b2 f2 t2 u2 => hE h₂ s.toks ⟨⟨a, B, rfl, ⟨b2, hf.2.1, f2, .inr (.inr ⟨a0, t2⟩)⟩, hg, hc⟩, ?_⟩
  exact keep_on hk (fun b hb _ _ _ z => z hb) (fun b o ho hb hd => hc b o ho (fun z => hb (List.mem_append_right _ z)) hd) b2 (u1.trans u2)
structure ErrC {KK : Frag} (G : Gd KK) {Sy : Type} (R : StRep Sy) (l : List Env) (h : Heap) (σ : R.T) (e : Value) (h' : Heap) : Prop where
  at_ : ∃ a B a0, e = .ref a ∧ B.StaysIn h' ∧ B.get? a = none ∧ h'.FunFrames B l ∧ h'.TracedW B a (.ref 31) a0 ∧ G.g.StaysIn B ∧ (∀ b o, h.get? b = some o → b ∉ R.foot σ → (∃ vs, o.data = .fields vs) → B.get? b = some o)
  keep : Keep (R.foot σ) h h'
theorem ErrC.err {e : Value} {l : List Env} (x : ErrC G R l h σ e h') : Err G R l L [] h σ e h' := by
  obtain ⟨⟨a, B, a0, he, hb, hn, hl, ht, hg, hc⟩, hk⟩ := x
  exact ⟨⟨a, B, he, ⟨hb, hn, hl, .inr (.inl ⟨a0, ht⟩)⟩, hg, hc⟩, hk⟩
noncomputable def FS (prog : Program) (w : World) {KK : Frag} (G : Gd KK) {Sy : Type} (R : StRep Sy) (fa : Addr) (n : Nat) (F : List V → Sy → Res (V × Sy)) : Prop :=
  ∀ (A : Around) (l : List Env) (s : Shared) (σ : R.T) (vs : List Value) (xs : List V) (Q : Value → Shared → Prop) (E : Value → Shared → Prop),
    AOk A l n → Cal G R l s.heap σ → RepL (R.foot σ) s.heap vs xs →
    (∀ v σ' vv h' tk, F xs σ.1 = .ok (v, σ'.1) → Cal G R l h' σ' → Keep (R.foot σ) s.heap h' → Grow (R.foot σ) (R.foot σ') s.heap → Rep (R.foot σ') h' vv v → Q vv { s with heap := h', toks := tk }) →
    (∀ e h' tk, F xs σ.1 = .err → ErrC G R l s.heap σ e h' → E e { s with heap := h', toks := tk }) →
    F xs σ.1 ≠ .stuck → wpAny (model prog w) A (call (.ref fa) vs) Q E s
theorem VarAt.step {env : Env} {x : Str} {v : V} (y : VarAt env h (R.foot σ) x v) (k : Keep (R.foot σ) h h') (g : Grow (R.foot σ) (R.foot σ') h) (hL : env.locals ∉ R.foot σ) : VarAt env h' (R.foot σ') x v := by
  have rk : ∀ {a : Value} {y : V}, Rep (R.foot σ) h a y → Rep (R.foot σ') h' a y := fun r => r.keep k g fun b hb => .inl hb
  rcases y with ⟨hk, m, vv, ⟨o, es, ep, ho, hd, hn⟩, hm, r⟩ | ⟨hk, c, vv, hc, hx, ⟨o, ho, hd⟩, r⟩
  · obtain ⟨sl, q, _⟩ := k _ _ ho hL
    exact .inl ⟨hk, m, vv, ⟨_, es, ep, q, hd, hn⟩, hm, rk r⟩
  · obtain ⟨sl, q, _⟩ := k _ _ ho hx
    exact .inr ⟨hk, c, vv, hc, (fun z => (g c z).elim hx (fun y => by rw [ho] at y; cases y)), ⟨_, q, hd⟩, rk r⟩
theorem Wf.called (W : Wf G R (f.env L cl) f.vars outer h ρ σ) (c : Cal G R outer h' σ') (k : Keep (R.foot σ) h h') (g : Grow (R.foot σ) (R.foot σ') h) : Wf G R (f.env L cl) f.vars outer h' ρ σ' := by
  have hL : L ∉ R.foot σ := Wf.F_foot W
  have nk : ∀ {a : Addr} {m : Str → Option Value}, h.Ns a m → a ∉ R.foot σ → h'.Ns a m := fun {a m} hn ha => by
    obtain ⟨o, es, ep, ho, hd, hn⟩ := hn
    obtain ⟨sl, q, _⟩ := k _ _ ho ha
    exact ⟨_, es, ep, q, hd, hn⟩
  obtain ⟨m, hm⟩ := W.frame
  obtain ⟨m', hm'⟩ := W.ns
  refine ⟨W.above, c, W.top, ⟨L, m, rfl, nk hm hL⟩, ⟨m', nk hm' W.apart⟩, fun z => ?_, fun i x v a b d => (W.var i x v a b d).step k g W.apart⟩
  rcases g _ z with z | z
  · exact W.apart z
  · obtain ⟨o, es, ep, ho, _⟩ := hm'; rw [ho] at z; cases z
theorem FS.run {fa : Addr} {m : Nat} {F : List V → Sy → Res (V × Sy)} (hs : FS prog w G R fa m F) (hm : m ≤ n) {α β : Type} {rd : List Addr → Heap → β → α → Prop} {Q' : β → Shared → Prop} {k : V × Sy → Res (α × Sy)} {Q : Value → Shared → Prop} {vs : List Value} {xs : List V}
    (hA : AOk A outer n) (W₀ : Wf G R (f.env L cl) f.vars outer h₀ ρ σ₀) (W : Wf G R (f.env L cl) f.vars outer s.heap ρ σ) (S : Stp R [] h₀ σ₀ s.heap σ) (r : RepL (R.foot σ) s.heap vs xs)
    (K : Kont G R f L cl outer rd h₀ σ₀ ρ s ((F xs σ.1).bind k) Q' E)
    (h : ∀ v σ₁ vv h₁ tk, F xs σ.1 = .ok (v, σ₁.1) → Wf G R (f.env L cl) f.vars outer h₁ ρ σ₁ → Stp R [] s.heap σ h₁ σ₁ → Stp R [] h₀ σ₀ h₁ σ₁ → Rep (R.foot σ₁) h₁ vv v →
      Kont G R f L cl outer rd h₀ σ₀ ρ { s with heap := h₁, toks := tk } (k (v, σ₁.1)) Q' E → Q vv { s with heap := h₁, toks := tk }) : wpAny (model prog w) A (call (.ref fa) vs) Q E s := by
  refine hs A _ s σ vs xs Q E (hA.le hm) W.cal r (fun v σ₁ vv h₁ tk e c kp g rr => ?_) (fun e h₁ tk e₁ x => K.er e h₁ tk (by rw [e₁]; rfl) ((ErrC.err x).after S W₀)) (Res.ne_stuck_left K.ns)
  have St : Stp R [] s.heap σ h₁ σ₁ := ⟨kp, g⟩
  exact h v σ₁ vv h₁ tk e (W.called c kp g) St (S.trans W St) rr ⟨fun v' σ' vv' h' tk' e' => K.ok v' σ' vv' h' tk' (by rw [e]; exact e'), fun e₁ h' tk' e' => K.er e₁ h' tk' (by rw [e]; exact e'), fun e' => K.ns (by rw [e]; exact e')⟩
theorem name_glob {x : Str} {pos : Pos} {v : Value} {Q : Value → Shared → Prop} (W : Wf G R (f.env L cl) f.vars outer s.heap ρ σ) (e : nsIn KK mainGlobals x = some (some v)) (h : Q v s)
    (hk : f.cs.kind = .function) (hx : f.cs.names.lookup x = some .globalImplicit) (hd : (x == ("__debug__" : Str)) = false) : wpAny (model prog w) A (eval (.Name x pos) (f.env L cl)) Q E s :=
  Name_function_global hk hx (loadGlobal_global (env := f.env L cl) (G.top.g.keeps W.cal.base) (mg_of G.inK G.top.g e) h) hd
theorem name_blt {x : Str} {pos : Pos} {v : Value} {Q : Value → Shared → Prop} (W : Wf G R (f.env L cl) f.vars outer s.heap ρ σ) (e : nsIn KK mainGlobals x = some none) (hv : bootBuiltins x = some v) (hn : x ≠ "__name__") (h : Q v s)
    (hk : f.cs.kind = .function) (hx : f.cs.names.lookup x = some .globalImplicit) (hd : (x == ("__debug__" : Str)) = false) : wpAny (model prog w) A (eval (.Name x pos) (f.env L cl)) Q E s :=
  Name_function_global hk hx (loadGlobal_builtin (env := f.env L cl) (G.top.g.keeps W.cal.base) (mg_none_of G.inK G.top.g e) (G.top.b.keeps W.cal.base) ((G.top.builtins x hn).trans hv) h) hd
noncomputable def eGlobD {Γ : Type} {S : Type} (y : V) : Γ → Dn S V := fun γ ρ σ => .ok (y, σ)
theorem eGlob {Γ : Type} {γ : Γ} {x : Str} {pos : Pos} {v : Value} {y : V} (e : nsIn KK mainGlobals x = some (some v)) (hr : ∀ h, Rep [] h v y) (hr' : ∀ X h, Rep [] h v y → Rep X h v y) (hk : f.cs.kind = .function) (hx : f.cs.names.lookup x = some .globalImplicit) (hd : (x == ("__debug__" : Str)) = false) :
    jW prog w G R f n (.Name x pos) (eGlobD y γ) := Snd.mk fun L cl A outer s ρ σ Q E hA W K =>
  name_glob W e (K.ok _ _ _ s.heap s.toks rfl W .refl (hr' _ _ (hr _))) hk hx hd
noncomputable def eCallD {Γ : Type} {S : Type} (F : Γ → List V → S → Res (V × S)) (Fs : Γ → Dn S (List V)) : Γ → Dn S V := fun γ ρ σ => ((Fs γ) ρ σ).bind fun p => (F γ) p.1 p.2
theorem eCall {Γ : Type} {γ : Γ} {x : Str} {np pos : Pos} {a : Expr} {as : List Expr} {fa : Addr} {m : Nat} {F : Γ → List V → Sy → Res (V × Sy)} {Fs : Γ → Den R (List V)} (hf : FS prog w G R fa m (F γ)) (hm : m ≤ n) (e : nsIn KK mainGlobals x = some (some (.ref fa))) (hl : SndL prog w G R f n pos (a :: as) (Fs γ))
    (hk : f.cs.kind = .function) (hx : f.cs.names.lookup x = some .globalImplicit) (hd : (x == ("__debug__" : Str)) = false) (hkeep : keepIn KK (.ref fa) = true)
    (h1 : ∀ env, starEach (a :: as) env = (false, eval a env) :: starEach as env := by intro; rfl) (h2 : ∀ env, ((backTo pos (starEach as env)).any fun x => x.1) = false := by intro; rfl) :
    jW prog w G R f n (.Call (.Name x np) (a :: as) [] pos) (eCallD F Fs γ) := Snd.mk fun L cl A outer s ρ σ Q E hA W K => by
  refine wpAny_Call_NameR (name_glob W e ?_ hk hx hd)
  refine callWith_K G.inK hkeep ?_ (h1 _) (h2 _)
  refine hl.run hA W W .refl K fun v σ₁ vv h₁ tk₁ e₁ W₁ _ S₁ r₁ K₁ => ⟨fun b o e => W₁.cal.base b o (G.inK b o e), ?_⟩
  exact hf.run (s := ⟨_, _, _, _, _⟩) hm hA W W₁ S₁ r₁ K₁.tail fun v₂ σ₂ vv₂ h₂ tk₂ e₂ W₂ T₂ S₂ r₂ K₂ => K₂.ok _ _ _ _ _ rfl W₂ S₂ r₂
noncomputable def OpL {α β : Type} (prog : Program) (w : World) (rd : List Addr → Heap → β → α → Prop) (t : List Value → Sem β) (ev : List V → Option α) : Prop :=
  ∀ (A : Around) (s : Shared) (X : List Addr) (a : List Value) (x : List V) (z : α) (Q : β → Shared → Prop) (E : Value → Shared → Prop),
    A.handled = none → A.units + 200 < cLine → (∀ b ∈ X, s.heap.get? b ≠ none) → RepL X s.heap a x → ev x = some z →
    (∀ vv h' tk, s.heap.StaysIn h' → rd X h' vv z → Q vv { s with heap := h', toks := tk }) → wpAny (model prog w) A (t a) Q E s
theorem OpL.run {α β α' β' : Type} {rd : List Addr → Heap → β → α → Prop} {rd' : List Addr → Heap → β' → α' → Prop} {Q' : β' → Shared → Prop} {k : α → Res (α' × Sy)} {Q : β → Shared → Prop} {t : List Value → Sem β} {ev : List V → Option α} (op : OpL prog w rd t ev) {a : List Value} {x : List V}
    (hA : AOk A outer n) (W : Wf G R (f.env L cl) f.vars outer s.heap ρ σ) (S : Stp R [] h₀ σ₀ s.heap σ) (ra : RepL (R.foot σ) s.heap a x)
    (K : Kont G R f L cl outer rd' h₀ σ₀ ρ s ((jV (ev x)).bind k) Q' E)
    (h : ∀ z vv h₁ tk, ev x = some z → Wf G R (f.env L cl) f.vars outer h₁ ρ σ → Stp R [] s.heap σ h₁ σ → Stp R [] h₀ σ₀ h₁ σ → rd (R.foot σ) h₁ vv z → Kont G R f L cl outer rd' h₀ σ₀ ρ { s with heap := h₁, toks := tk } (k z) Q' E → Q vv { s with heap := h₁, toks := tk }) : wpAny (model prog w) A (t a) Q E s := by
  cases e : ev x with
  | none => rw [e] at K; exact absurd rfl K.ns
  | some z =>
    rw [e] at K
    exact op A s (R.foot σ) a x z Q E hA.handled (by have := hA.units; omega) (R.live W.cal.rep) ra e fun vv h₁ tk st r => h z vv h₁ tk e (W.stays st) (.of_stays st) (S.trans W (.of_stays st)) r ⟨K.ok, K.er, K.ns⟩
noncomputable def eBltD {Γ : Type} {S : Type} (ev : List V → Option V) (Fs : Γ → Dn S (List V)) : Γ → Dn S V := fun γ ρ σ => ((Fs γ) ρ σ).bind fun p => (jV (ev p.1)).bind fun v => .ok (v, p.2)
@[simp] theorem eBltD_ap {Γ : Type} {S : Type} (ev : List V → Option V) (Fs : Γ → Dn S (List V)) (γ : Γ) (ρ : List V) (σ : S) : (eBltD ev Fs) γ ρ σ = ((Fs γ) ρ σ).bind fun p => (jV (ev p.1)).bind fun v => .ok (v, p.2) := rfl
theorem eBlt {Γ : Type} {γ : Γ} {x : Str} {np pos : Pos} {a : Expr} {as : List Expr} {id : String} {ev : List V → Option V} {Fs : Γ → Den R (List V)} (hop : OpL prog w Rep (fun vs => call (.builtin id) vs) ev) (e : nsIn KK mainGlobals x = some none) (hv : bootBuiltins x = some (.builtin id)) (hn : x ≠ "__name__") (hl : SndL prog w G R f n pos (a :: as) (Fs γ))
    (hk : f.cs.kind = .function) (hx : f.cs.names.lookup x = some .globalImplicit) (hd : (x == ("__debug__" : Str)) = false)
    (h1 : ∀ env, starEach (a :: as) env = (false, eval a env) :: starEach as env := by intro; rfl) (h2 : ∀ env, ((backTo pos (starEach (a :: as) env)).any fun x => x.1) = false := by intro; rfl) :
    jW prog w G R f n (.Call (.Name x np) (a :: as) [] pos) (eBltD ev Fs γ) := Snd.mk fun L cl A outer s ρ σ Q E hA W K => by
  simp only [eBltD_ap] at K
  refine wpAny_Call_NameR (name_blt W e hv hn ?_ hk hx hd)
  refine callWith_builtin (h2 _) ?_
  have hst : backTo pos (starEach (a :: as) (f.env L cl)) = (false, eval a (f.env L cl)) :: backTo pos (starEach as (f.env L cl)) := by rw [h1]; rfl
  rw [hst]
  refine evalArgs_plain ?_
  rw [← hst]
  refine hl.run hA W W .refl K fun v σ₁ vv h₁ tk₁ e₁ W₁ _ S₁ r₁ K₁ => ?_
  refine hop.run (s := ⟨_, _, _, _, _⟩) hA W₁ S₁ r₁ K₁ fun z vv₃ h₃ tk₃ e₃ W₃ _ S₃ r₃ K₃ => ?_
  exact K₃.ok _ _ _ _ _ rfl W₃ S₃ r₃
noncomputable def eTypD {Γ : Type} {S : Type} (ev : List V → Option V) (Fs : Γ → Dn S (List V)) : Γ → Dn S V := fun γ ρ σ => ((Fs γ) ρ σ).bind fun p => (jV (ev p.1)).bind fun v => .ok (v, p.2)
@[simp] theorem eTypD_ap {Γ : Type} {S : Type} (ev : List V → Option V) (Fs : Γ → Dn S (List V)) (γ : Γ) (ρ : List V) (σ : S) : (eTypD ev Fs) γ ρ σ = ((Fs γ) ρ σ).bind fun p => (jV (ev p.1)).bind fun v => .ok (v, p.2) := rfl
theorem eTyp {Γ : Type} {γ : Γ} {x : Str} {np pos : Pos} {a : Expr} {as : List Expr} {T : String} {ev : List V → Option V} {Fs : Γ → Den R (List V)} (hop : OpL prog w Rep (fun vs => call (.type T) vs) ev) (e : nsIn KK mainGlobals x = some none) (hv : bootBuiltins x = some (.type T)) (hn : x ≠ "__name__") (hl : SndL prog w G R f n pos (a :: as) (Fs γ))
    (hk : f.cs.kind = .function) (hx : f.cs.names.lookup x = some .globalImplicit) (hd : (x == ("__debug__" : Str)) = false)
    (h1 : ∀ env, starEach (a :: as) env = (false, eval a env) :: starEach as env := by intro; rfl) (h2 : ∀ env, ((backTo pos (starEach (a :: as) env)).any fun x => x.1) = false := by intro; rfl) :
    jW prog w G R f n (.Call (.Name x np) (a :: as) [] pos) (eTypD ev Fs γ) := Snd.mk fun L cl A outer s ρ σ Q E hA W K => by
  simp only [eTypD_ap] at K
  refine wpAny_Call_NameR (name_blt W e hv hn ?_ hk hx hd)
  refine PySem.callWith_type (h2 _) ?_
  have hst : backTo pos (starEach (a :: as) (f.env L cl)) = (false, eval a (f.env L cl)) :: backTo pos (starEach as (f.env L cl)) := by rw [h1]; rfl
  rw [hst]
  refine evalArgs_plain ?_
  rw [← hst]
  refine hl.run hA W W .refl K fun v σ₁ vv h₁ tk₁ e₁ W₁ _ S₁ r₁ K₁ => ?_
  refine hop.run (s := ⟨_, _, _, _, _⟩) hA W₁ S₁ r₁ K₁ fun z vv₃ h₃ tk₃ e₃ W₃ _ S₃ r₃ K₃ => ?_
  exact K₃.ok _ _ _ _ _ rfl W₃ S₃ r₃
end
section
variable {prog : Program} {w : World} {KK : Frag} {G : Gd KK} {Sy : Type} {R : StRep Sy} {f : Fn} {n : Nat}
noncomputable def whileD {S : Type} (T : List V → S → Res (Bool × S)) (B : List V → S → Res ((Out × List V) × S)) : Nat → List V → S → Res ((Out × List V) × S)
  | 0, _, _ => .stuck
  | k + 1, ρ, σ => (T ρ σ).bind fun p => bif p.1 then (B ρ p.2).bind fun q => match q.1.1 with
      | .next => whileD T B k q.1.2 q.2
      | .cont => whileD T B k q.1.2 q.2
      | .brk => .ok ((.next, q.1.2), q.2)
      | .ret v => .ok ((.ret v, q.1.2), q.2)
    else .ok ((.next, ρ), p.2)
theorem whileD_succ {S : Type} (T : List V → S → Res (Bool × S)) (B : List V → S → Res ((Out × List V) × S)) (k : Nat) (ρ : List V) (σ : S) : whileD T B (k + 1) ρ σ = (T ρ σ).bind fun p => bif p.1 then (B ρ p.2).bind fun q => match q.1.1 with
      | .next => whileD T B k q.1.2 q.2
      | .cont => whileD T B k q.1.2 q.2
      | .brk => .ok ((.next, q.1.2), q.2)
      | .ret v => .ok ((.ret v, q.1.2), q.2)
    else .ok ((.next, ρ), p.2) := rfl
theorem KontS.of {L : Addr} {cl : Cx} {outer : List Env} {h₀ : Heap} {σ₀ : R.T} {s : Shared} {r r' : Res ((Out × List V) × Sy)} {Q : Flow → Shared → Prop} {E : Value → Shared → Prop}
    (K : KontS G R f L cl outer h₀ σ₀ s r Q E) (h' : Heap) (tk : Nat) (e : r = r') : KontS G R f L cl outer h₀ σ₀ { s with heap := h', toks := tk } r' Q E := e ▸ ⟨K.ok, K.er, K.ns⟩
theorem sWhile' {t : Expr} {b : List Stmt} {pos : Pos} {T : Den R Bool} {B : Den R (Out × List V)} (N : Nat) (ht : SndT prog w G R f n t T) (hb : SndB prog w G R f n b B) :
    SndS prog w G R f n (.While t b [] pos) (whileD T B N) := SndG.mk fun L cl A outer s ρ σ Q E hA W K => by
  refine wpAny_While (codeAny_whileLoop (fun k s₁ => ∃ ρ₁ σ₁, Wf G R (f.env L cl) f.vars outer s₁.heap ρ₁ σ₁ ∧ Stp R [L] s.heap σ s₁.heap σ₁ ∧ KontS G R f L cl outer s.heap σ s₁ (whileD T B k ρ₁ σ₁.1) Q E) (fun k s₁ hI => ?_) N ⟨ρ, σ, W, .refl, K⟩)
  obtain ⟨ρ₁, σ₁, W₁, S₁, K₁⟩ := hI
  cases k with
  | zero => exact absurd rfl K₁.ns
  | succ k =>
    have K₁' : KontS G R f L cl outer s.heap σ s₁ _ Q (notedBy (model prog w) A (f.env L cl) (cameBackBy (model prog w) A (f.env L cl) E)) := ⟨K₁.ok, fun e h' tk q x => Err.passes (s := ⟨h', _, _, tk, _⟩) hA W.top x fun h'' tk' x' => K₁.er e h'' tk' q x', K₁.ns⟩
    rw [whileD_succ] at K₁'
    refine ht.runS hA W W₁ S₁ K₁' fun v σ₂ vv h₂ tk₂ e₂ W₂ _ S₂ r₂ K₂ => ?_
    cases r₂
    cases v
    · simp only [Bool.false_eq_true, if_false, cond_false] at K₂ ⊢
      exact wpAny_execs_nil (K₂.ok _ _ _ .next _ _ rfl W₂ S₂ trivial)
    · simp only [if_true, cond_true] at K₂ ⊢
      refine hb.runS (s := ⟨_, _, _, _, _⟩) hA W W₂ S₂ K₂ fun o ρ₃ σ₃ fl h₃ tk₃ e₃ W₃ _ S₃ r₃ K₃ => ?_
      cases o <;> cases fl <;> first | exact r₃.elim | skip
      · exact ⟨k, Nat.lt_succ_self _, ρ₃, σ₃, W₃, S₃, K₁.of h₃ tk₃ (by rw [whileD_succ, e₂]; simp only [Res.bind_ok, cond_true, e₃])⟩
      · exact ⟨k, Nat.lt_succ_self _, ρ₃, σ₃, W₃, S₃, K₁.of h₃ tk₃ (by rw [whileD_succ, e₂]; simp only [Res.bind_ok, cond_true, e₃])⟩
      · exact K₃.ok _ _ _ .next _ _ rfl W₃ S₃ trivial
      · exact K₃.ok _ _ _ (.ret _) _ _ rfl W₃ S₃ r₃
noncomputable def sWhileD {Γ S : Type} (N : Γ → Nat) (T : Γ → Dn S Bool) (B : Γ → Dn S (Out × List V)) : Γ → Dn S (Out × List V) := fun γ => whileD (T γ) (B γ) (N γ)
theorem sWhile {Γ : Type} {γ : Γ} {t : Expr} {b : List Stmt} {pos : Pos} {T : Γ → Den R Bool} {B : Γ → Den R (Out × List V)} (N : Γ → Nat) (ht : SndT prog w G R f n t (T γ)) (hb : SndB prog w G R f n b (B γ)) :
    SndS prog w G R f n (.While t b [] pos) (sWhileD N T B γ) := sWhile' (N γ) ht hb
noncomputable def retOf : Out → V
  | .ret v => v
  | _ => .none
theorem lookup_zip (ps : List Str) : ∀ (vs : List Value) (j : Nat) (x : Str), ps.Nodup → ps.length = vs.length → ps[j]? = some x → (ps.zip vs).reverse.lookup x = vs[j]? := by
  induction ps with
  | nil => intro vs j x _ _ h; cases h
  | cons p ps ih =>
    intro vs j x hn hl h
    cases vs with
    | nil => cases hl
    | cons v vs =>
    rw [List.zip_cons_cons, List.reverse_cons, List.lookup_append]
    have hn := List.nodup_cons.mp hn
    cases j with
    | zero =>
      cases h
      rw [List.lookup_eq_none_iff.mpr fun q hq => bne_iff_ne.mpr fun z : p = q.1 => hn.1 (z ▸ (List.of_mem_zip (List.mem_reverse.mp hq)).1)]
      exact List.lookup_cons_self
    | succ j =>
      rw [ih vs j x hn.2 (Nat.succ.inj hl) h, List.lookup_eq_none_iff.mpr fun q hq => bne_iff_ne.mpr fun z : x = q.1 => hn.1 (by rw [List.mem_singleton.mp hq] at z; exact (show x = p from z) ▸ List.mem_of_getElem? h), Option.or_none]; rfl
theorem AOk.deeper {A : Around} {l : List Env} {env : Env} (a : AOk A l (n + 1)) : AOk (A.deeper env) (env :: l) n :=
  ⟨by show A.frames.map _ = _; rw [a.frames]; rfl, a.handled, by show A.depth + 1 + n + 4 < _; have := a.depth; omega, by show A.units + 3 + 32 * n + 200 < _; have := a.units; omega⟩
theorem bindL_eq {kindOf : Str → Option NameKind} {x : Str} (hx : kindOf x = some .local) : ∀ (binds : List (Str × Value)) (m : Str → Option Value), bindL kindOf binds m x = (binds.reverse.lookup x).or (m x)
  | [], m => by simp [bindL]
  | (n, v) :: r, m => by
    rw [bindL, bindL_eq hx r, List.reverse_cons, List.lookup_append]
    by_cases e : x = n
    · subst e; simp [hx, List.lookup]
    · have e' : (x == n) = false := by simpa using e
      split <;> simp [List.lookup, e', e]
theorem bindC_eq {kindOf : Str → Option NameKind} {x : Str} (hx : kindOf x ≠ some .local) : ∀ (binds : List (Str × Value)) (m : Str → Option Value), bindC kindOf binds m x = (binds.reverse.lookup x).or (m x)
  | [], m => by simp [bindC]
  | (n, v) :: r, m => by
    rw [bindC, bindC_eq hx r, List.reverse_cons, List.lookup_append]
    by_cases e : x = n
    · subst e; simp [hx, List.lookup]
    · have e' : (x == n) = false := by simpa using e
      split <;> simp [List.lookup, e', e]
theorem entered {f : Fn} {l : List Env} {s : Shared} {h₁ : Heap} {σ : R.T} {vs : List Value} {xs : List V} {k : Nat} {cl : Cx} (hC : f.isC = false) (hcl : cl.cells = cellsFrom (s.heap.objs.size + 1) f.cs.names [])
    (hc : Cal G R l s.heap σ) (hr : RepL (R.foot σ) s.heap vs xs) (hxk : xs.length = k) (hlen : k ≤ f.vars.length) (hnd : f.vars.Nodup) (hk : f.cs.kind = .function)
    (hkind : ∀ x ∈ f.vars.take k, f.cs.names.lookup x = some .local ∨ (f.cs.names.lookup x = some .cell ∧ ((cellsFrom (s.heap.objs.size + 1) f.cs.names []).lookup x).isSome = true))
    (hns : h₁.Ns s.heap.objs.size (bindL (f.cs.names.lookup ·) ((f.vars.take k).zip vs) fun _ => none)) (hk₁ : s.heap.StaysIn h₁)
    (hcell : ∀ n c, (cellsFrom (s.heap.objs.size + 1) f.cs.names []).lookup n = some c → h₁.IsCell c (bindC (f.cs.names.lookup ·) ((f.vars.take k).zip vs) (fun _ => none) n))
    (habove : ∀ n c, (n, c) ∈ cellsFrom (s.heap.objs.size + 1) f.cs.names [] → s.heap.objs.size < c) :
    Wf G R (f.env s.heap.objs.size cl) f.vars (f.env s.heap.objs.size cl :: l) h₁ (xs ++ List.replicate (f.vars.length - k) .undef) σ := by
  have hvk : vs.length = k := hr.length.trans hxk
  have eL := Fn.loc (L := s.heap.objs.size) (cl := cl) hC
  have hfoot : ∀ {c : Addr}, s.heap.objs.size ≤ c → c ∉ R.foot σ := fun hle z => by
    obtain ⟨o, ho⟩ := Option.ne_none_iff_exists'.mp (R.live hc.rep _ z)
    exact absurd (Heap.lt_size ho) (Nat.not_lt.mpr hle)
  have hgL : G.g.get? s.heap.objs.size = none := Heap.StaysIn.fresh hc.base
  have hc₁ : Cal G R (f.env s.heap.objs.size cl :: l) h₁ σ := by
    refine ⟨fun b o e => hk₁ b o (hc.base b o e), ⟨by show f.cs.kind ≠ _; rw [hk]; decide, ?_, hc.ff.of_keeps fun b o e _ => ⟨o, hk₁ b o e, rfl⟩⟩, fun e he b hb => ?_, R.stable hc.rep fun a o e _ => hk₁ a o e⟩
    · obtain ⟨oL, es, ep, hoL, hdL, _⟩ := hns
      exact ⟨_, oL, rfl, hgL, hoL, fun vs z => by rw [hdL] at z; cases z⟩
    · rcases List.mem_cons.mp he with rfl | he
      · cases hb; exact hfoot (Nat.le_refl _)
      · exact hc.nf e he b hb
  have hr₁ : RepL (R.foot σ) h₁ vs xs := hr.keep (Keep.of_stays (X := R.foot σ) hk₁) (.refl _ _) fun b hb => .inl hb
  refine ⟨?_, hc₁, ⟨_, _, rfl, rfl⟩, ⟨_, _, rfl, hns⟩, ⟨_, eL.symm ▸ hns⟩, eL.symm ▸ hfoot (Nat.le_refl _), fun i x v hi hv hne => ?_⟩
  · obtain ⟨o, ho⟩ := G.last
    have hlt : G.g.objs.size - 1 < s.heap.objs.size := Heap.lt_size (hc.base _ _ ho)
    rw [eL]
    omega
  by_cases hik : i < k
  · rw [List.getElem?_append_left (by omega)] at hv
    obtain ⟨vv, hvv, rr⟩ := hr₁.get hv
    have hxm : x ∈ f.vars.take k := List.mem_of_getElem? (i := i) (by rw [List.getElem?_take_of_lt hik]; exact hi)
    have hz := lookup_zip (f.vars.take k) vs i x (hnd.sublist (List.take_sublist _ _)) (by rw [List.length_take, hvk]; omega) (by rw [List.getElem?_take_of_lt hik]; exact hi)
    rcases hkind x hxm with hl | ⟨hl, hs⟩
    · refine .inl ⟨hl, _, vv, eL.symm ▸ hns, ?_, rr⟩
      rw [bindL_eq hl, hz, hvv]; rfl
    · obtain ⟨c, hcc⟩ := Option.isSome_iff_exists.mp hs
      refine .inr ⟨hl, c, vv, by rw [show (f.env s.heap.objs.size cl).cells = cl.cells from rfl, hcl]; exact hcc, hfoot (Nat.le_of_lt (habove _ _ (mem_of_lookup hcc))), ?_, rr⟩
      have := hcell x c hcc
      rw [bindC_eq (by rw [hl]; intro z; cases z), hz, hvv] at this
      exact this
  · rw [List.getElem?_append_right (by omega)] at hv
    exact absurd (List.eq_of_mem_replicate (List.mem_of_getElem? hv)) hne
theorem fs_of' {fa : Addr} {oc : Value} {od : Option Addr} {osl : Array (Option Value)} {params : Arguments} {body : List Stmt} {dV kV doc pm ct : Value} {an : Option Addr} {nm cn : Str} {cs : Scope} {ccd : Value} {vars : List Str} {F : Den R (Out × List V)} (k : Nat)
    (ho : KK.lookup fa = some ⟨oc, od, .func (fnOf nm cn params body cs dV kV doc pm an ccd ct), osl⟩) (hcd : codeIn KK ccd cn = true) (hb : SndB prog w G R ⟨cn, cs, fa, ccd, vars, false⟩ n body F)
    (hbind : ∀ vs : List Value, vs.length = k → bindArgs (fnOf nm cn params body cs dV kV doc pm an ccd ct) ⟨vs, []⟩ = pure ((vars.take k).zip vs))
    (hnd : vars.Nodup) (hkind : ∀ L, ∀ x ∈ vars.take k, cs.names.lookup x = some .local ∨ (cs.names.lookup x = some .cell ∧ ((cellsFrom (L + 1) cs.names []).lookup x).isSome = true)) (hlen : k ≤ vars.length)
    (hco : cs.isCoroutine = false) (hgen : cs.isGenerator = false) (hk : cs.kind = .function) :
    FS prog w G R fa (n + 1) (fun xs σ => if xs.length = k then (F (xs ++ List.replicate (vars.length - k) .undef) σ).bind fun p => .ok (retOf p.1.1, p.2) else .stuck) := by
  intro A l s σ vs xs Q E hA hc hr hQ hE hS
  by_cases hxk : xs.length = k
  · simp only [hxk, if_true] at hQ hE hS
    have hvk : vs.length = k := hr.length.trans hxk
    refine wpAny_call (codeAny_call_cells (fd := fnOf nm cn params body cs dV kV doc pm an ccd ct) (body := body) (binds := (vars.take k).zip vs) (by have := hA.depth; omega) (hc.base _ _ (G.inK _ _ ho)) rfl (G.top.nolimit.keeps hc.base) (codeRec_of (fun b o e => hc.base b o (G.inK b o e)) hcd) rfl (hbind vs hvk) rfl (fun x hx => hkind _ _ (List.of_mem_zip hx).1) (fun s₁ X => ?_) hco hgen hk)
    obtain ⟨h₁, tk₁, rfl, hk₁⟩ := X.done
    let f : Fn := ⟨cn, cs, fa, ccd, vars, false⟩
    let cl : Cx := ⟨cellsFrom (s.heap.objs.size + 1) cs.names [], 0⟩
    have eenv : callEnvC (fnOf nm cn params body cs dV kV doc pm an ccd ct) s.heap.objs.size fa = f.env s.heap.objs.size cl := rfl
    rw [eenv] at X ⊢
    have hns : h₁.Ns s.heap.objs.size (bindL (cs.names.lookup ·) ((vars.take k).zip vs) fun _ => none) := X.toInCall.ns
    have hW : Wf G R (f.env s.heap.objs.size cl) f.vars (f.env s.heap.objs.size cl :: l) h₁ (xs ++ List.replicate (f.vars.length - k) .undef) σ :=
      entered (f := f) rfl rfl hc hr hxk hlen hnd hk (hkind _) hns hk₁ X.cell X.above
    have kst : ∀ {h' : Heap} {σ' : R.T}, Stp R [s.heap.objs.size] h₁ σ h' σ' → Keep (R.foot σ) s.heap h' ∧ Grow (R.foot σ) (R.foot σ') s.heap := fun {h' σ'} S => by
      refine ⟨fun b o e hb => S.keep b o (hk₁ b o e) fun z => (List.mem_cons.mp z).elim (fun q => ?_) hb, fun b hb => (S.grow b hb).imp id fun q => ?_⟩
      · subst q; exact absurd (Heap.lt_size e) (Nat.lt_irrefl _)
      · cases e : s.heap.get? b with
        | none => rfl
        | some o => rw [hk₁ b o e] at q; cases q
    have K : KontS G R f s.heap.objs.size cl (f.env s.heap.objs.size cl :: l) h₁ σ ⟨h₁, s.gens, s.drawn, tk₁, s.os⟩ ((F (xs ++ List.replicate (f.vars.length - k) .undef) σ.1).bind .ok)
        (fun fl s' => match (Except.ok (Flow.ret (match fl with | .ret v => v | _ => .none)) : Result) with | .ok (.ret v) => Q v s' | .ok _ => False | .error e => E e s')
        (fun e s' => wpAny (model prog w) (A.deeper (f.env s.heap.objs.size cl)) (leaving (f.env s.heap.objs.size cl) e) (fun _ s'' => E e s'') (fun e' s'' => E e' s'') s') := by
      refine KontS.tail ⟨fun o ρ' σ' fl h' tk e W' S' r' => ?_, fun e h' tk e' x => ?_, Res.ne_stuck_left hS⟩
      · have hQ := hQ
        rw [show F (xs ++ List.replicate (vars.length - k) .undef) σ.1 = _ from e] at hQ
        obtain ⟨k1, k2⟩ := kst S'
        have hc' : Cal G R l h' σ' := ⟨W'.cal.base, W'.cal.ff.2.2, fun e he => W'.cal.nf e (.tail _ he), W'.cal.rep⟩
        cases o <;> cases fl <;> first | exact r'.elim | skip
        · exact hQ _ σ' .none h' tk rfl hc' k1 k2 .none
        · exact hQ _ σ' .none h' tk rfl hc' k1 k2 .none
        · exact hQ _ σ' .none h' tk rfl hc' k1 k2 .none
        · exact hQ _ σ' _ h' tk rfl hc' k1 k2 r'
      · obtain ⟨⟨a, B, rfl, hf, hg, hcov⟩, hkp⟩ := x
        refine Fly.left (s := ⟨h', _, _, tk, _⟩) (AOk.deeper hA).frames rfl hf fun h₂ a0 b2 f2 t2 u2 => hE _ h₂ tk (by rw [show F (xs ++ List.replicate (vars.length - k) .undef) σ.1 = _ from e']; rfl) ?_
        have hcov' : ∀ b o, s.heap.get? b = some o → b ∉ R.foot σ → (∃ vs, o.data = .fields vs) → B.get? b = some o := fun b o e hb hd => hcov b o (hk₁ b o e) hb hd
        refine ⟨⟨a, B, a0, rfl, b2, hf.2.1, f2, t2, hg, hcov'⟩, ?_⟩
        have kk : Keep (R.foot σ) s.heap h' := fun b o e hb => hkp b o (hk₁ b o e) fun z => (List.mem_cons.mp z).elim (fun q => by subst q; exact absurd (Heap.lt_size e) (Nat.lt_irrefl _)) hb
        exact keep_on kk (fun b hb _ _ _ z => z hb) hcov' b2 u2
    exact hb.runS (s := ⟨_, _, _, _, _⟩) (AOk.deeper hA) hW hW .refl K fun o ρ₁ σ₁ fl h₂ tk₂ e₂ W₂ T₂ S₂ r₂ K₂ => K₂.ok _ _ _ _ _ _ rfl W₂ S₂ r₂
  · simp only [hxk, if_false] at hS; exact absurd rfl hS
theorem fs_of {Γ : Type} (γ : Γ) {fa : Addr} {oc : Value} {od : Option Addr} {osl : Array (Option Value)} {params : Arguments} {body : List Stmt} {dV kV doc pm ct ccd : Value} {an : Option Addr} {nm cn : Str} {cs : Scope} (vars : List Str) {F : Γ → Den R (Out × List V)} {F' : List V → Sy → Res (V × Sy)} (k : Nat)
    (ho : KK.lookup fa = some ⟨oc, od, .func (fnOf nm cn params body cs dV kV doc pm an ccd ct), osl⟩) (hcd : codeIn KK ccd cn = true) (hF : FOk ⟨cn, cs, fa, ccd, vars, false⟩)
    (hb : FOk ⟨cn, cs, fa, ccd, vars, false⟩ → SndB prog w G R ⟨cn, cs, fa, ccd, vars, false⟩ n body (F γ))
    (hbind : ∀ vs : List Value, vs.length = k → bindArgs (fnOf nm cn params body cs dV kV doc pm an ccd ct) ⟨vs, []⟩ = pure ((vars.take k).zip vs))
    (hkind : ∀ L, ∀ x ∈ vars.take k, cs.names.lookup x = some .local ∨ (cs.names.lookup x = some .cell ∧ ((cellsFrom (L + 1) cs.names []).lookup x).isSome = true))
    (hlen : k ≤ vars.length) (hco : cs.isCoroutine = false) (hgen : cs.isGenerator = false)
    (hw : ∀ xs σ, F' xs σ ≠ .stuck → xs.length = k ∧ ((F γ (xs ++ List.replicate (vars.length - k) .undef) σ).bind fun p => .ok (retOf p.1.1, p.2)) = F' xs σ) :
    FS prog w G R fa (n + 1) F' := by
  have := fs_of' (R := R) k ho hcd (hb hF) hbind hF.nd hkind hlen hco hgen hF.kind
  intro A l s σ vs xs Q E hA hc hr hQ hE hS
  obtain ⟨h1, h2⟩ := hw xs σ.1 hS
  have e : (if xs.length = k then (F γ (xs ++ List.replicate (vars.length - k) .undef) σ.1).bind fun p => .ok (retOf p.1.1, p.2) else .stuck) = F' xs σ.1 := by rw [if_pos h1, h2]
  exact this A l s σ vs xs Q E hA hc hr (fun v σ' vv h' tk q => hQ v σ' vv h' tk (e ▸ q)) (fun er h' tk q => hE er h' tk (e ▸ q)) (fun q => hS (e ▸ q))
end
section
variable {prog : Program} {w : World}
noncomputable def V.int? : V → Option Int | .int a => some a | _ => Option.none
noncomputable def V.bytes? : V → Option (List UInt8) | .bytes a => some a | _ => Option.none
noncomputable def V.str? : V → Option Str | .str a => some a | _ => Option.none
noncomputable def V.bool? : V → Option Bool | .bool a => some a | _ => Option.none
noncomputable def V.lst? : V → Option (List V) | .lst a => some a | _ => Option.none
noncomputable def V.tup? : V → Option (List V) | .tup a => some a | _ => Option.none
section
variable {X : List Addr} {h : Heap} {v : Value} {x : V}
noncomputable def SeqR (X : List Addr) (h : Heap) (c : String) (l : List V) (v : Value) : Prop := ∃ a o n vs, v = .ref a ∧ h.get? a = some o ∧ o.cls = .type c ∧ o.data = .seq (List.toArray vs) n ∧ a ∉ X ∧ RepL X h vs l ∧ l.length ≤ 4096
noncomputable def RepI (X : List Addr) (h : Heap) (v : Value) : V → Prop
  | .none => v = .none
  | .bool a => v = .bool a
  | .int a => ∃ t, v = .int a t
  | .bytes a => ∃ t, v = .bytes a.toArray t ∧ a.length ≤ 4096
  | .str a => ∃ t, v = .str a t
  | .lst l => SeqR X h "list" l v
  | .tup l => SeqR X h "tuple" l v
  | .ref a => v = .ref a
  | _ => True
theorem Rep.inv (r : Rep X h v x) : RepI X h v x :=
  Rep.rec (motive_1 := fun v x _ => RepI X h v x) (motive_2 := fun _ _ _ => True) rfl (fun _ => rfl) (fun _ t => ⟨t, rfl⟩) (fun _ t hz => ⟨t, rfl, hz⟩) (fun _ t => ⟨t, rfl⟩) (fun ho hc hd hx hl hz _ => ⟨_, _, _, _, rfl, ho, hc, hd, hx, hl, hz⟩) (fun ho hc hd hx hl hz _ => ⟨_, _, _, _, rfl, ho, hc, hd, hx, hl, hz⟩) (fun _ => rfl) trivial (fun _ _ _ _ => trivial) r
theorem Rep.inj_ref {a : Addr} (r : Rep X h v (.ref a)) : v = .ref a := r.inv
theorem Rep.none_inv (r : Rep X h v .none) : v = .none := r.inv
theorem V.of_int {a : Int} (e : x.int? = some a) : x = .int a := by cases x <;> cases e; rfl
theorem Rep.int? {a : Int} (r : Rep X h v x) (e : x.int? = some a) : ∃ t, v = .int a t := (V.of_int e ▸ r).inv
theorem V.of_bytes {a : List UInt8} (e : x.bytes? = some a) : x = .bytes a := by cases x <;> cases e; rfl
theorem Rep.bytes? {a : List UInt8} (r : Rep X h v x) (e : x.bytes? = some a) : ∃ t, v = .bytes a.toArray t ∧ a.length ≤ 4096 := (V.of_bytes e ▸ r).inv
theorem V.of_str {a : Str} (e : x.str? = some a) : x = .str a := by cases x <;> cases e; rfl
theorem Rep.str? {a : Str} (r : Rep X h v x) (e : x.str? = some a) : ∃ t, v = .str a t := (V.of_str e ▸ r).inv
theorem V.of_bool {a : Bool} (e : x.bool? = some a) : x = .bool a := by cases x <;> cases e; rfl
theorem Rep.bool? {a : Bool} (r : Rep X h v x) (e : x.bool? = some a) : v = .bool a := (V.of_bool e ▸ r).inv
theorem V.of_lst {a : List V} (e : x.lst? = some a) : x = .lst a := by cases x <;> cases e; rfl
theorem Rep.lst? {l : List V} (r : Rep X h v x) (e : x.lst? = some l) : SeqR X h "list" l v := (V.of_lst e ▸ r).inv
theorem V.of_tup {a : List V} (e : x.tup? = some a) : x = .tup a := by cases x <;> cases e; rfl
theorem Rep.tup? {l : List V} (r : Rep X h v x) (e : x.tup? = some l) : SeqR X h "tuple" l v := (V.of_tup e ▸ r).inv
theorem RepL.cons? {vs : List Value} {l : List V} (r : RepL X h vs (x :: l)) : ∃ v ws, vs = v :: ws ∧ Rep X h v x ∧ RepL X h ws l := by cases r; exact ⟨_, _, rfl, ‹_›, ‹_›⟩
theorem RepL.nil? {vs : List Value} (r : RepL X h vs []) : vs = [] := by cases r; rfl
theorem RepL.one? {vs : List Value} (r : RepL X h vs [x]) : ∃ v, vs = [v] ∧ Rep X h v x :=
  let ⟨v, _, e, q, n⟩ := r.cons?
  ⟨v, by rw [e, n.nil?], q⟩
theorem RepL.two? {vs : List Value} {y : V} (r : RepL X h vs [x, y]) : ∃ v u, vs = [v, u] ∧ Rep X h v x ∧ Rep X h u y :=
  let ⟨v, _, e, q, n⟩ := r.cons?
  let ⟨u, e', q'⟩ := n.one?
  ⟨v, u, by rw [e, e'], q, q'⟩
theorem ofOpt_ne {α β : Type} {o : Option α} {k : α → Res β} (h : (jV o).bind k ≠ .stuck) : ∃ z, o = some z ∧ (jV o).bind k = k z := by
  cases o with
  | none => exact absurd rfl h
  | some z => exact ⟨z, rfl, rfl⟩
end
section
variable {KK : Frag} {G : Gd KK} {Sy : Type} {R : StRep Sy} {f : Fn} {L : Addr} {cl : Cx} {outer : List Env} {h₀ : Heap} {σ₀ : R.T} {ρ : List V} {s : Shared} {E : Value → Shared → Prop}
theorem Kont.to {α β : Type} {rd : List Addr → Heap → β → α → Prop} {r r' : Res (α × Sy)} {Q : β → Shared → Prop} (K : Kont G R f L cl outer rd h₀ σ₀ ρ s r Q E) (e : r = r') : Kont G R f L cl outer rd h₀ σ₀ ρ s r' Q E := e ▸ K
theorem KontS.to {r r' : Res ((Out × List V) × Sy)} {Q : Flow → Shared → Prop} (K : KontS G R f L cl outer h₀ σ₀ s r Q E) (e : r = r') : KontS G R f L cl outer h₀ σ₀ s r' Q E := e ▸ K
end
theorem getv_ne {β : Type} {ρ : List V} {i : Nat} {k : V → Res β} (h : (getv ρ i).bind k ≠ .stuck) : ∃ v, getv ρ i = .ok v ∧ (getv ρ i).bind k = k v := by
  cases hg : getv ρ i with
  | err => exact absurd hg getv_err
  | stuck => rw [hg] at h; exact absurd rfl h
  | ok v => exact ⟨v, rfl, rfl⟩
theorem ite_ne {β : Type} {c : Prop} [Decidable c] {a : Res β} (h : (if c then a else .stuck) ≠ .stuck) : c ∧ (if c then a else .stuck) = a := by
  by_cases hc : c
  · exact ⟨hc, if_pos hc⟩
  · exact absurd (if_neg hc) h
noncomputable def on2 {α β : Type} (p : V → Option α) (q : V → Option β) (f : α → β → Option V) : V → V → Option V := fun x y => (p x).bind fun a => (q y).bind fun b => f a b
theorem on2_some {α β : Type} {p : V → Option α} {q : V → Option β} {f : α → β → Option V} {x y z : V} (e : on2 p q f x y = some z) : ∃ a b, p x = some a ∧ q y = some b ∧ f a b = some z :=
  let ⟨a, h1, e⟩ := Option.bind_eq_some_iff.mp e
  let ⟨b, h2, e⟩ := Option.bind_eq_some_iff.mp e
  ⟨a, b, h1, h2, e⟩
noncomputable def orE (f g : V → V → Option V) : V → V → Option V := fun x y => (f x y).or (g x y)
theorem Op2.or {t : Value → Value → Sem Value} {f g : V → V → Option V} (hf : Op2 prog w Rep t f) (hg : Op2 prog w Rep t g) : Op2 prog w Rep t (orE f g) := fun A s X a b x y z Q E hh hu hX ra rb e hQ =>
  (Option.or_eq_some_iff.mp e).elim (fun e => hf A s X a b x y z Q E hh hu hX ra rb e hQ) (fun e => hg A s X a b x y z Q E hh hu hX ra rb e.2 hQ)
noncomputable def onII (f : Int → Int → Option V) : V → V → Option V := on2 V.int? V.int? f
theorem op_ii {t : Value → Value → Sem Value} {f : Int → Int → Option V} (h : ∀ (A : Around) (s : Shared) (a b : Int) (u v : Tok) (z : V) (Q : Value → Shared → Prop) (E : Value → Shared → Prop), f a b = some z → (∀ vv tk, (∀ X h, Rep X h vv z) → Q vv { s with toks := tk }) → wpAny (model prog w) A (t (.int a u) (.int b v)) Q E s) : Op2 prog w Rep t (onII f) := fun A s X a b x y z Q E hh hu hX ra rb e hQ => by
  obtain ⟨i, j, e1, e2, e⟩ := on2_some e
  obtain ⟨u, rfl⟩ := ra.int? e1
  obtain ⟨v, rfl⟩ := rb.int? e2
  exact h A s i j u v z Q E e fun vv tk r => hQ vv s.heap tk (StaysIn.refl _) (r _ _)
noncomputable def onIB (p : Int → Int → Bool) : V → V → Option V := onII fun a b => some (.bool (p a b))
theorem op_ib {t : Value → Value → Sem Value} {p : Int → Int → Bool} (h : ∀ (A : Around) (s : Shared) (a b : Int) (u v : Tok) (Q : Value → Shared → Prop) (E : Value → Shared → Prop), Q (.bool (p a b)) s → wpAny (model prog w) A (t (.int a u) (.int b v)) Q E s) : Op2 prog w Rep t (onIB p) :=
  op_ii fun A s a b u v z Q E e hQ => h A s a b u v Q E (by cases e; exact hQ _ s.toks fun _ _ => .bool _)
noncomputable def onInts (g : Int → Int → Int) : V → V → Option V := onII fun a b => some (.int (g a b))
theorem op_in {t : Value → Value → Sem Value} {g : Int → Int → Int} (h : ∀ (A : Around) (s : Shared) (a b : Int) (u v : Tok) (Q : Value → Shared → Prop) (E : Value → Shared → Prop), Q (.int (g a b) s.toks) { s with toks := s.toks + 1 } → wpAny (model prog w) A (t (.int a u) (.int b v)) Q E s) : Op2 prog w Rep t (onInts g) :=
  op_ii fun A s a b u v z Q E e hQ => h A s a b u v Q E (by cases e; exact hQ _ _ fun _ _ => .int _ _)
noncomputable def evAdd : V → V → Option V := orE (onInts fun a b => a + b) (on2 V.lst? V.lst? fun a b => if a.length + b.length ≤ 4096 then some (.lst (a ++ b)) else none)
noncomputable def evSub : V → V → Option V := onInts fun a b => a - b
noncomputable def evMul : V → V → Option V := onII fun a b => if a.natAbs ≤ 4096 then some (.int (a * b)) else none
noncomputable def evDiv : V → V → Option V := onII fun a b => if b ≠ 0 ∧ a.natAbs ≤ 4096 ∧ b.natAbs ≤ 4096 then some (.int (a.fdiv b)) else none
noncomputable def evMod : V → V → Option V := onII fun a b => if b ≠ 0 then some (.int (a.fmod b)) else none
theorem fresh_notin {h : Heap} {X : List Addr} (hX : ∀ b ∈ X, h.get? b ≠ none) : h.objs.size ∉ X := fun z => by
  obtain ⟨o, ho⟩ := Option.ne_none_iff_exists'.mp (hX _ z)
  exact absurd (Heap.lt_size ho) (Nat.lt_irrefl _)
theorem rep_newLst {h : Heap} {X : List Addr} (hX : ∀ b ∈ X, h.get? b ≠ none) {vs : List Value} {l : List V} (r : RepL X h vs l) (hz : l.length ≤ 4096) : Rep X (h.push { cls := .type "list", data := .seq vs.toArray }) (.ref h.objs.size) (.lst l) :=
  .lst (vs := vs) (n := 0) (Heap.get?_push_size _ rfl) rfl rfl (fresh_notin hX) (r.keep (Keep.of_stays (X := []) (StaysIn.push _ _)) (.refl _ _) fun _ hb => nomatch hb) hz
theorem jP : Op2 prog w Rep (binaryOp .Add) evAdd := (op_in fun A s a b u v Q E h => add_int h).or fun A s X a b x y z Q E hh hu hX ra rb e hQ => by
  obtain ⟨l1, l2, e1, e2, e⟩ := on2_some e
  obtain ⟨a1, o1, n1, vs1, rfl, ho1, hc1, hd1, hx1, hl1, hz1⟩ := ra.lst? e1
  obtain ⟨a2, o2, n2, vs2, rfl, ho2, hc2, hd2, hx2, hl2, hz2⟩ := rb.lst? e2
  split at e
  · rename_i hz
    cases e
    obtain ⟨cls, dd, data, sl⟩ := o1
    obtain ⟨cls2, dd2, data2, sl2⟩ := o2
    simp only at hc1 hd1 hc2 hd2
    subst hc1 hd1 hc2 hd2
    have e : vs1.toArray ++ vs2.toArray = (vs1 ++ vs2).toArray := by simp
    refine concat_meets ⟨_, ho1, rfl⟩ ⟨_, ho2, rfl⟩ noFill_list_add seq_list_add PySem.F.slot_list_add PySem.F.entry_list_add (PySem.F.args_list_add_2 _ _) (list_addW _ _ vs1.toArray vs2.toArray n1 n2 dd dd2 sl sl2 (by rw [List.size_toArray, List.size_toArray, hl1.length, hl2.length, sizeLine_eq]; omega)) ⟨ho1, ho2, ?_⟩
    rw [e]
    exact hQ _ _ _ (StaysIn.push _ _) (rep_newLst hX (hl1.append hl2) (by rw [List.length_append]; exact hz))
  · cases e
theorem op_sub : Op2 prog w Rep (binaryOp .Sub) evSub := op_in fun A s a b u v Q E h => sub_int h
noncomputable def evIAdd : V → V → Option V := onInts fun a b => a + b
theorem op_iadd : Op2 prog w Rep (inplaceOp .Add) evIAdd := op_in fun A s a b u v Q E h => iadd_int h
theorem op_isub : Op2 prog w Rep (inplaceOp .Sub) evSub := op_in fun A s a b u v Q E h => isub_int h
theorem op_mod : Op2 prog w Rep (binaryOp .Mod) evMod := op_ii fun A s a b u v z Q E e hQ => by
  split at e
  · cases e; exact mod_int (by assumption) (hQ _ _ fun _ _ => .int _ _)
  · cases e
noncomputable def evLt : V → V → Option V := onIB fun a b => decide (a < b)
noncomputable def evLe : V → V → Option V := onIB fun a b => decide (a ≤ b)
noncomputable def evGt : V → V → Option V := onIB fun a b => decide (b < a)
noncomputable def evGe : V → V → Option V := onIB fun a b => decide (b ≤ a)
noncomputable def onBB (p : List UInt8 → List UInt8 → Bool) : V → V → Option V := on2 V.bytes? V.bytes? fun a b => some (.bool (p a b))
theorem op_bb {t : Value → Value → Sem Value} {p : List UInt8 → List UInt8 → Bool} (h : ∀ (A : Around) (s : Shared) (a b : List UInt8) (u v : Tok) (Q : Value → Shared → Prop) (E : Value → Shared → Prop), Q (.bool (p a b)) s → wpAny (model prog w) A (t (.bytes a.toArray u) (.bytes b.toArray v)) Q E s) : Op2 prog w Rep t (onBB p) := fun A s X a b x y z Q E hh hu hX ra rb e hQ => by
  obtain ⟨i, j, e1, e2, e⟩ := on2_some e
  obtain ⟨u, rfl, _⟩ := ra.bytes? e1
  obtain ⟨v, rfl, _⟩ := rb.bytes? e2
  cases e
  exact h A s i j u v Q E (hQ _ s.heap s.toks (StaysIn.refl _) (.bool _))
noncomputable def evEq : V → V → Option V := orE (onIB fun a b => decide (a = b)) (orE (onBB fun a b => decide (a = b)) (on2 V.str? V.str? fun a b => some (.bool (a == b))))
noncomputable def evNe : V → V → Option V := orE (onIB fun a b => !decide (a = b)) (orE (onBB fun a b => !decide (a = b)) (on2 V.bool? V.bool? fun a b => some (.bool (a != b))))
noncomputable def isNone : V → Bool
  | .none => true
  | _ => false
noncomputable def evIs : V → V → Option V := fun a b => if isNone b then some (.bool (isNone a)) else none
noncomputable def evIsNot : V → V → Option V := fun a b => if isNone b then some (.bool (!isNone a)) else none
theorem op_lt : Op2 prog w Rep (compareOp .Lt) evLt := op_ib fun A s a b u v Q E h => lt_int h
theorem op_le : Op2 prog w Rep (compareOp .LtE) evLe := op_ib fun A s a b u v Q E h => le_int h
theorem op_gt : Op2 prog w Rep (compareOp .Gt) evGt := op_ib fun A s a b u v Q E h => gt_int h
theorem op_ge : Op2 prog w Rep (compareOp .GtE) evGe := op_ib fun A s a b u v Q E h => ge_int h
theorem beq_bytes (b c : List UInt8) : (b.toArray.toList == c.toArray.toList) = decide (b = c) := by by_cases h : b = c <;> simp [h]
theorem jR : Op2 prog w Rep (compareOp .Eq) evEq :=
  (op_ib fun A s a b u v Q E h => eq_int h).or ((op_bb fun A s a b u v Q E h => eq_bytes (by rw [beq_bytes]; exact h)).or fun A s X a b x y z Q E hh hu hX ra rb e hQ => by
    obtain ⟨i, j, e1, e2, e⟩ := on2_some e
    obtain ⟨u, rfl⟩ := ra.str? e1
    obtain ⟨v, rfl⟩ := rb.str? e2
    cases e
    exact eq_str (hQ _ s.heap s.toks (StaysIn.refl _) (.bool _)))
theorem op_ne : Op2 prog w Rep (compareOp .NotEq) evNe :=
  (op_ib fun A s a b u v Q E h => ne_int h).or ((op_bb fun A s a b u v Q E h => ne_bytes (by show Q (.bool (!(_ == _))) _; rw [beq_bytes]; exact h)).or fun A s X a b x y z Q E hh hu hX ra rb e hQ => by
    obtain ⟨i, j, e1, e2, e⟩ := on2_some e
    cases ra.bool? e1
    cases rb.bool? e2
    cases e
    exact ne_bool (hQ _ s.heap s.toks (StaysIn.refl _) (.bool _)))
theorem Rep.isNone {X : List Addr} {h : Heap} {v : Value} {x : V} (r : Rep X h v x) : (v == .none) = Mine.isNone x := by cases r <;> rfl
theorem isNone_eq {x : V} (h : isNone x = true) : x = .none := by cases x <;> first | rfl | cases h
theorem op_is : Op2 prog w Rep (compareOp .Is) evIs := fun A s X a b x y z Q E hh hu hX ra rb e hQ => by
  unfold evIs at e
  split at e
  · rename_i h
    cases isNone_eq h
    cases rb.none_inv
    cases e
    exact is_none_gen (by rw [ra.isNone]; exact hQ _ s.heap s.toks (StaysIn.refl _) (.bool _))
  · cases e
theorem op_isnot : Op2 prog w Rep (compareOp .IsNot) evIsNot := fun A s X a b x y z Q E hh hu hX ra rb e hQ => by
  unfold evIsNot at e
  split at e
  · rename_i h
    cases isNone_eq h
    cases rb.none_inv
    cases e
    exact isnot_none_gen (by rw [ra.isNone]; exact hQ _ s.heap s.toks (StaysIn.refl _) (.bool _))
  · cases e
noncomputable def itemL (l : List V) (i : Int) : Option V := if 0 ≤ i then l[i.toNat]? else none
noncomputable def evItem : V → V → Option V := orE (on2 V.bytes? V.int? fun b i => if 0 ≤ i ∧ i < (b.length : Int) then some (.int ((b.getD i.toNat 0).toNat : Int)) else none) (orE (on2 V.tup? V.int? itemL) (on2 V.lst? V.int? itemL))
theorem RepL.item {X : List Addr} {h : Heap} {vs : List Value} {l : List V} {i : Int} {z : V} (hl : RepL X h vs l) (e : itemL l i = some z) : ∃ v, vs[i.toNat]? = some v ∧ Rep X h v z ∧ 0 ≤ i ∧ i.toNat < vs.length := by
  unfold itemL at e
  split at e
  · rename_i hi
    obtain ⟨v, hv, rv⟩ := hl.get e
    exact ⟨v, hv, rv, hi, (List.getElem?_eq_some_iff.mp hv).1⟩
  · cases e
theorem seqIndex_of {i : Int} {n : Nat} (h0 : 0 ≤ i) (h : i.toNat < n) : seqIndex? i n = some i.toNat := by
  have h1 : ¬ i < 0 := by omega
  have h2 : i < (n : Int) := by omega
  simp [seqIndex?, h1, h2]
theorem op_item {value slice : Expr} (hs : ∀ o i, subscripted slice false o i = operate [o, i] (getItem o i)) : Op2 prog w Rep (subscriptTail value slice) evItem := by
  refine Op2.or (fun A s X a b x y z Q E hh hu hX ra rb e hQ => ?_) (Op2.or (fun A s X a b x y z Q E hh hu hX ra rb e hQ => ?_) (fun A s X a b x y z Q E hh hu hX ra rb e hQ => ?_))
  · obtain ⟨bs, i, e1, e2, e⟩ := on2_some e
    obtain ⟨t, rfl, hz⟩ := ra.bytes? e1
    obtain ⟨u, rfl⟩ := rb.int? e2
    split at e
    · rename_i hi
      cases e
      exact tail_any (typeIs_bytes _ _ _) FB.slot_bytes_getitem.lookup (getItem_bytes (by omega) hi.1 hi.2 (hQ _ s.heap _ (StaysIn.refl _) (.int _ _))) (hs _ _)
    · cases e
  · obtain ⟨l, i, e1, e2, e⟩ := on2_some e
    obtain ⟨ad, o, n, vs, rfl, ho, hc, hd, hx, hl, hz⟩ := ra.tup? e1
    obtain ⟨u, rfl⟩ := rb.int? e2
    obtain ⟨v, hv, rv, h0, hlt⟩ := hl.item e
    have ht : IsTup s.heap ad vs.toArray := ⟨o, ho, hc, n, hd⟩
    have hz : vs.length ≤ 4096 := hl.length ▸ hz
    clear hd hc ho hx
    exact item_tupleT ht (by omega) (by omega) (seqIndex_of h0 hlt) hv (hQ _ s.heap s.toks (StaysIn.refl _) rv) (hs _ _)
  · obtain ⟨l, i, e1, e2, e⟩ := on2_some e
    obtain ⟨ad, o, n, vs, rfl, ho, hc, hd, hx, hl, hz⟩ := ra.lst? e1
    obtain ⟨u, rfl⟩ := rb.int? e2
    obtain ⟨v, hv, rv, h0, hlt⟩ := hl.item e
    have hlen := hl.length
    have ht : s.heap.IsList ad vs.toArray := ⟨o, ho, hc, n, hd⟩
    exact tail_any ht.typeIs slot_list_getitem.lookup (wpAny_getItem_list ht h0 (by omega) (by simpa using hv) (hQ _ s.heap s.toks (StaysIn.refl _) rv)) (hs _ _)
noncomputable def subD {Γ : Type} {S : Type} (Fv : Γ → Dn S V) (Fi : Γ → Dn S V) : Γ → Dn S V := fun γ ρ σ => ((Fv γ) ρ σ).bind fun p => ((Fi γ) ρ p.2).bind fun q => (jV (evItem p.1 q.1)).bind fun v => .ok (v, q.2)
theorem sub_ {Γ : Type} {γ : Γ} {KK : Frag} {G : Gd KK} {Sy : Type} {R : StRep Sy} {f : Fn} {n : Nat} {v i : Expr} {pos : Pos} {Fv Fi : Γ → Den R V} (hv : jW prog w G R f n v (Fv γ)) (hi : jW prog w G R f n i (Fi γ))
    (hs : ∀ o x, subscripted i false o x = operate [o, x] (getItem o x) := by intro _ _; rfl) :
    jW prog w G R f n (.Subscript v i pos) (subD Fv Fi γ) := Snd.mk fun L cl A outer s ρ σ Q E hA W K => by
  refine Subscript_ (hv.run hA W W .refl K fun v σ₁ vv h₁ tk₁ e₁ W₁ _ S₁ r₁ K₁ => ?_)
  refine hi.run (s := ⟨_, _, _, _, _⟩) hA W W₁ S₁ K₁ fun v₂ σ₂ vv₂ h₂ tk₂ e₂ W₂ T₂ S₂ r₂ K₂ => ?_
  refine (op_item hs).run (s := ⟨_, _, _, _, _⟩) hA W₂ S₂ (T₂.rep W₁ r₁) r₂ K₂ fun z vv₃ h₃ tk₃ e₃ W₃ _ S₃ r₃ K₃ => ?_
  exact K₃.ok _ _ _ _ _ rfl W₃ S₃ r₃
noncomputable def SndP (prog : Program) (w : World) {KK : Frag} (G : Gd KK) {Sy : Type} (R : StRep Sy) (f : Fn) (n : Nat) (e : Option Expr) (F : Den R (Option Int)) : Prop := Snd prog w G R f n (fun _ _ v o => IsPart v o) (fun env => evalPart e env) F
noncomputable def pNoneD {Γ : Type} {S : Type} : Γ → Dn S (Option Int) := fun γ ρ σ => .ok (none, σ)
theorem pNone {Γ : Type} {γ : Γ} {KK : Frag} {G : Gd KK} {Sy : Type} {R : StRep Sy} {f : Fn} {n : Nat} : SndP prog w G R f n none (pNoneD γ) := Snd.mk fun L cl A outer s ρ σ Q E hA W K => wpAny_evalPart_none (K.ok _ _ _ s.heap s.toks rfl W .refl .none)
noncomputable def evPart (v : V) : Option (Option Int) := v.int?.map some
noncomputable def pSomeD {Γ : Type} {S : Type} (F : Γ → Dn S V) : Γ → Dn S (Option Int) := fun γ ρ σ => ((F γ) ρ σ).bind fun p => (jV (evPart p.1)).bind fun i => .ok (i, p.2)
theorem pSome {Γ : Type} {γ : Γ} {KK : Frag} {G : Gd KK} {Sy : Type} {R : StRep Sy} {f : Fn} {n : Nat} {e : Expr} {F : Γ → Den R V} (h : jW prog w G R f n e (F γ)) : SndP prog w G R f n (some e) (pSomeD F γ) := Snd.mk fun L cl A outer s ρ σ Q E hA W K => by
  refine wpAny_evalPart_some (h.run hA W W .refl K fun v σ₁ vv h₁ tk₁ e₁ W₁ _ S₁ r₁ K₁ => ?_)
  obtain ⟨i, hi, e⟩ := ofOpt_ne K₁.ns
  obtain ⟨j, hj, rfl⟩ := Option.map_eq_some_iff.mp hi
  obtain ⟨t, rfl⟩ := r₁.int? hj
  exact K₁.ok _ _ _ _ _ e W₁ S₁ (.int _ _)
noncomputable def cut {α : Type} (l : List α) (lo hi : Option Int) : List α := (l.drop (lo.elim 0 (clipAt l.length))).take (hi.elim l.length (clipAt l.length) - lo.elim 0 (clipAt l.length))
noncomputable def evSlice (v : V) (lo hi : Option Int) : Option V := match v with
  | .bytes b => some (.bytes (cut b lo hi))
  | .lst l => some (.lst (cut l lo hi))
  | _ => none
theorem cut_length {α : Type} (l : List α) (lo hi : Option Int) : (cut l lo hi).length ≤ l.length := by
  unfold cut; exact Nat.le_trans (List.length_take_le' _ _) (List.length_drop ▸ Nat.sub_le _ _)
theorem evSlice_inv {v z : V} {lo hi : Option Int} (e : evSlice v lo hi = some z) : (∃ b, v.bytes? = some b ∧ z = .bytes (cut b lo hi)) ∨ ∃ l, v.lst? = some l ∧ z = .lst (cut l lo hi) := by
  cases v with
  | bytes b => exact .inl ⟨b, rfl, (Option.some.inj e).symm⟩
  | lst l => exact .inr ⟨l, rfl, (Option.some.inj e).symm⟩
  | _ => exact nomatch e
theorem get_slice_b {A : Around} {s : Shared} {b : List UInt8} {t : Tok} {v₂ v₃ : Value} {lo hi : Option Int} {Q : Value → Shared → Prop} {E : Value → Shared → Prop} (r₂ : IsPart v₂ lo) (r₃ : IsPart v₃ hi) (hz : b.length ≤ 4096)
    (h : ∀ tk u, Q (.bytes (cut b lo hi).toArray u) { s with heap := s.heap.push { cls := .type "slice", data := .fields #[v₂, v₃, .none] }, toks := tk }) :
    wpAny (model prog w) A (getItem (.bytes b.toArray t) (.ref s.heap.objs.size)) Q E { s with heap := s.heap.push { cls := .type "slice", data := .fields #[v₂, v₃, .none] } } := by
  refine getItem_meets (typeIs_bytes _ _ _) (by decide) FB.slot_bytes_getitem FB.entry_bytes_getitem (FB.args_bytes_getitem_2 _ _) (KBc.meets_slice2 b.toArray t _ r₂ r₃) ⟨Heap.IsSliceOf.new _ _ _ _, Nat.le_trans (KBc.size_picked_le _ _ _) (Nat.le_trans (Nat.le_of_eq List.size_toArray) (Nat.le_trans hz (Nat.le_of_ble_eq_true rfl))), fun t' k => ?_⟩
  have e : KBy.picked b.toArray lo hi = (cut b lo hi).toArray := by rw [KBc.picked_eq]; simp [cut]
  rw [e]; exact h _ _
theorem get_slice_l {A : Around} {s : Shared} {a : Addr} {vs : List Value} {v₂ v₃ : Value} {lo hi : Option Int} {Q : Value → Shared → Prop} {E : Value → Shared → Prop} (hL : s.heap.IsList a vs.toArray) (r₂ : IsPart v₂ lo) (r₃ : IsPart v₃ hi) (hz : vs.length ≤ 4096)
    (h : ∀ g, s.heap.push { cls := .type "slice", data := .fields #[v₂, v₃, .none] } = g → Q (.ref g.objs.size) { s with heap := g.push { cls := .type "list", data := .seq (cut vs lo hi).toArray } }) :
    wpAny (model prog w) A (getItem (.ref a) (.ref s.heap.objs.size)) Q E { s with heap := s.heap.push { cls := .type "slice", data := .fields #[v₂, v₃, .none] } } := by
  refine wpAny_getItem_list_slice (s := ⟨_, _, _, _, _⟩) (hL.push _) (Heap.IsSliceOf.new ..) r₂ r₃ .none (by simp) ?_ (Nat.le_trans (Nat.le_of_eq List.size_toArray) (Nat.le_trans hz (Nat.le_of_ble_eq_true rfl)))
  have e : slicePick vs.toArray lo hi none = (cut vs lo hi).toArray := by rw [slicePick_plain]; simp [cut]
  rw [e]; exact h _ rfl
theorem RepL.cut {X : List Addr} {h : Heap} {vs : List Value} {l : List V} (r : RepL X h vs l) (lo hi : Option Int) : RepL X h (cut vs lo hi) (cut l lo hi) := by
  unfold Mine.cut; rw [r.length]; exact (r.drop _).take _
noncomputable def sliceD {Γ : Type} {S : Type} (Fv : Γ → Dn S V) (Fl : Γ → Dn S (Option Int)) (Fu : Γ → Dn S (Option Int)) : Γ → Dn S V := fun γ ρ σ => ((Fv γ) ρ σ).bind fun p => ((Fl γ) ρ p.2).bind fun q => ((Fu γ) ρ q.2).bind fun r => (jV (evSlice p.1 q.1 r.1)).bind fun v => .ok (v, r.2)
theorem slice_ {Γ : Type} {γ : Γ} {KK : Frag} {G : Gd KK} {Sy : Type} {R : StRep Sy} {f : Fn} {n : Nat} {v : Expr} {lo hi : Option Expr} {p pos : Pos} {Fv : Γ → Den R V} {Fl Fu : Γ → Den R (Option Int)} (hv : jW prog w G R f n v (Fv γ)) (hl : SndP prog w G R f n lo (Fl γ)) (hu : SndP prog w G R f n hi (Fu γ)) :
    jW prog w G R f n (.Subscript v (.Slice lo hi none p) pos) (sliceD Fv Fl Fu γ) := Snd.mk fun L cl A outer s ρ σ Q E hA W K => by
  refine Subscript_ (hv.run hA W W .refl K fun v₁ σ₁ vv₁ h₁ tk₁ e₁ W₁ _ S₁ r₁ K₁ => ?_)
  refine wpAny_Slice ?_
  refine hl.run (s := ⟨_, _, _, _, _⟩) hA W W₁ S₁ K₁ fun v₂ σ₂ vv₂ h₂ tk₂ e₂ W₂ T₂ S₂ r₂ K₂ => ?_
  refine hu.run (s := ⟨_, _, _, _, _⟩) hA W W₂ S₂ K₂ fun v₃ σ₃ vv₃ h₃ tk₃ e₃ W₃ T₃ S₃ r₃ K₃ => ?_
  refine wpAny_evalPart_none ?_
  have ra := T₃.rep W₂ (T₂.rep W₁ r₁)
  obtain ⟨z, hz, e⟩ := ofOpt_ne K₃.ns
  have K₃ := K₃.to e
  clear e K K₁ K₂ S₁ S₂ T₂ T₃ r₁ e₁ e₂ e₃ W₁ W₂ W
  have st := StaysIn.push h₃ { cls := .type "slice", data := .fields #[vv₂, vv₃, .none] }
  rcases evSlice_inv hz with ⟨b, hb, rfl⟩ | ⟨l, hl, rfl⟩
  · obtain ⟨t, rfl, hz⟩ := ra.bytes? hb
    exact tail_any (typeIs_bytes _ _ _) FB.slot_bytes_getitem.lookup (get_slice_b (s := ⟨_, _, _, _, _⟩) r₂ r₃ hz fun tk u => K₃.ok _ _ _ _ _ rfl (W₃.stays st) (S₃.trans W₃ (.of_stays st)) (.bytes _ _ (Nat.le_trans (cut_length _ _ _) hz))) (ops := [.ref _, .bytes b.toArray t]) rfl
  · obtain ⟨ad, o, nn, vs, rfl, ho, hc, hd, hx, hl, hz⟩ := ra.lst? hl
    have hL : h₃.IsList ad vs.toArray := ⟨o, ho, hc, nn, hd⟩
    refine tail_any (Heap.IsList.typeIs (s := ⟨_, _, _, _, _⟩) (hL.push _)) slot_list_getitem.lookup (get_slice_l (s := ⟨_, _, _, _, _⟩) hL r₂ r₃ (hl.length ▸ hz) fun g eg => ?_) (ops := [.ref _, .ref ad]) rfl
    have st : h₃.StaysIn g := eg ▸ st
    have st2 := StaysIn.push g { cls := .type "list", data := .seq (cut vs v₂ v₃).toArray }
    have Wp := W₃.stays st
    exact K₃.ok _ _ _ _ _ rfl (Wp.stays st2) ((S₃.trans W₃ (.of_stays st)).trans Wp (.of_stays st2)) (rep_newLst (R.live Wp.cal.rep) ((hl.keep (Keep.of_stays (X := []) st) (Grow.refl (R.foot σ₃) _) fun _ hb => nomatch hb).cut _ _) (Nat.le_trans (cut_length _ _ _) hz))
noncomputable def evLen : List V → Option V
  | [x] => (x.bytes?.map fun b => V.int b.length).or (x.lst?.map fun l => V.int l.length)
  | _ => none
theorem evLen_inv {x : List V} {z : V} (e : evLen x = some z) : ∃ y, x = [y] ∧ ((∃ b, y.bytes? = some b ∧ V.int b.length = z) ∨ ∃ l, y.lst? = some l ∧ V.int l.length = z) := by
  cases x with
  | nil => cases e
  | cons y r =>
  cases r with
  | cons _ _ => exact nomatch (show none = some z from e)
  | nil => exact ⟨y, rfl, (Option.or_eq_some_iff.mp e).imp Option.map_eq_some_iff.mp fun e => Option.map_eq_some_iff.mp e.2⟩
theorem op_len : OpL prog w Rep (fun vs => call (.builtin "len") vs) evLen := by
  intro A s X a x z Q E hh hu hX r e hQ
  obtain ⟨y, rfl, e2⟩ := evLen_inv e
  obtain ⟨v, rfl, r1⟩ := r.one?
  clear e r
  rcases e2 with ⟨b, hb, rfl⟩ | ⟨l, hl, rfl⟩
  · obtain ⟨t, rfl, hz⟩ := r1.bytes? hb
    refine len_bytes (b := b.toArray) (by simp; omega) ?_
    rw [List.size_toArray]
    exact hQ (.int _ (s.toks + 1)) s.heap (s.toks + 1 + 1) (StaysIn.refl _) (.int b.length _)
  · obtain ⟨ad, o, n, vs, rfl, ho, hc, hd, hx, hl, hz⟩ := r1.lst? hl
    refine call_len_list (items := vs.toArray) ⟨o, ho, hc, n, hd⟩ (by have := hl.length; simp; omega) ?_
    rw [List.size_toArray, hl.length]
    exact hQ (.int _ (s.toks + 1)) s.heap (s.toks + 1 + 1) (StaysIn.refl _) (.int l.length _)
end
noncomputable def others (h : Heap) (ex : List Addr) : List (Addr × Obj) := (List.range h.objs.size).filterMap fun a => if a ∈ ex then none else (h.get? a).map fun o => (a, o)
theorem mem_others {h : Heap} {ex : List Addr} {p : Addr × Obj} : p ∈ others h ex ↔ h.get? p.1 = some p.2 ∧ p.1 ∉ ex := by
  unfold others
  rw [List.mem_filterMap]
  constructor
  · rintro ⟨a, ha, h1⟩
    split at h1
    · cases h1
    · obtain ⟨o, ho, rfl⟩ := Option.map_eq_some_iff.mp h1
      exact ⟨ho, by assumption⟩
  · rintro ⟨h1, h2⟩
    refine ⟨p.1, List.mem_range.mpr (Heap.lt_size h1), ?_⟩
    rw [if_neg h2, h1]; rfl
theorem news_others {h : Heap} {L : Addr} {ex : List Addr} (hL : L ∈ ex) : News {} L h (others h ex) := fun p hp => by
  obtain ⟨h1, h2⟩ := mem_others.mp hp
  exact ⟨h1, fun e => h2 (e ▸ hL), rfl⟩
structure MC where
  x : Addr
  dx : Addr
  text : List UInt8
  pat : List UInt8
structure MS where
  depth : Int
  level : Int
  starts : List Int
  lengths : List Int
structure MX where
  la : Addr
  lb : Addr
noncomputable def mEnts (P : Params) (mc : MC) (τ : MS × MX) (k : Nat → Tok) : List DictEntry := [
  ⟨PyData.keyHash P (Str.ofString "text"), .str (Str.ofString "text") (k 0), .bytes mc.text.toArray (k 1)⟩,
  ⟨PyData.keyHash P (Str.ofString "pattern"), .str (Str.ofString "pattern") (k 2), .bytes mc.pat.toArray (k 3)⟩,
  ⟨PyData.keyHash P (Str.ofString "most_depth"), .str (Str.ofString "most_depth") (k 4), .int 60 (k 5)⟩,
  ⟨PyData.keyHash P (Str.ofString "tick"), .str (Str.ofString "tick") (k 6), .none⟩,
  ⟨PyData.keyHash P (Str.ofString "depth"), .str (Str.ofString "depth") (k 7), .int τ.1.depth (k 8)⟩,
  ⟨PyData.keyHash P (Str.ofString "level"), .str (Str.ofString "level") (k 9), .int τ.1.level (k 10)⟩,
  ⟨PyData.keyHash P (Str.ofString "starts"), .str (Str.ofString "starts") (k 11), .ref τ.2.la⟩,
  ⟨PyData.keyHash P (Str.ofString "lengths"), .str (Str.ofString "lengths") (k 12), .ref τ.2.lb⟩]
structure MRep (P : Params) (g : Heap) (mc : MC) (τ : MS × MX) (h : Heap) : Prop where
  inst : h.get? mc.x = some (instObj 253 mc.dx)
  dict : ∃ k n, h.get? mc.dx = some (dictOf (mEnts P mc τ k) n)
  starts : ∃ vs, h.IsList τ.2.la vs.toArray ∧ IntsAre vs τ.1.starts
  lengths : ∃ vs, h.IsList τ.2.lb vs.toArray ∧ IntsAre vs τ.1.lengths
  nx : g.get? mc.x = none
  ndx : g.get? mc.dx = none
  nla : g.get? τ.2.la = none
  nlb : g.get? τ.2.lb = none
  apart : τ.2.la ≠ τ.2.lb
  ztext : mc.text.length ≤ 4096
  zpat : mc.pat.length ≤ 4096
  zs : τ.1.starts.length ≤ 2000
  zl : τ.1.lengths.length ≤ 2000
theorem not_none {h : Heap} {a : Addr} {o : Obj} (e : h.get? a = some o) : h.get? a ≠ none := by rw [e]; exact fun z => nomatch z
theorem ints_on {foot : List Addr} {h h' : Heap} {a : Addr} {ns : List Int} (k : ∀ a o, h.get? a = some o → (a ∈ foot ∨ tupO o) → h'.get? a = some o) (r : ∃ vs, h.IsList a (List.toArray vs) ∧ IntsAre vs ns) (ha : a ∈ foot) : ∃ vs, h'.IsList a (List.toArray vs) ∧ IntsAre vs ns :=
  let ⟨vs, ⟨o, ho, hr⟩, hi⟩ := r
  ⟨vs, ⟨o, k _ _ ho (.inl ha), hr⟩, hi⟩
@[reducible] noncomputable def RM (P : Params) (g : Heap) (mc : MC) : StRep MS where
  X := MX
  rep := MRep P g mc
  foot := fun τ => [mc.x, mc.dx, τ.2.la, τ.2.lb]
  stable := fun {σ h h'} r k => ⟨k _ _ r.inst (.inl (.head _)), let ⟨kk, n, a2⟩ := r.dict; ⟨kk, n, k _ _ a2 (.inl (.tail _ (.head _)))⟩, ints_on k r.starts (.tail _ (.tail _ (.head _))), ints_on k r.lengths (.tail _ (.tail _ (.tail _ (.head _)))), r.nx, r.ndx, r.nla, r.nlb, r.apart, r.ztext, r.zpat, r.zs, r.zl⟩
  live := fun {σ h} r a ha => (List.mem_cons.mp ha).elim (fun e => e ▸ not_none r.inst) fun ha => (List.mem_cons.mp ha).elim (fun e => e ▸ let ⟨_, _, q⟩ := r.dict; not_none q) fun ha => (List.mem_cons.mp ha).elim (fun e => e ▸ let ⟨_, ⟨_, q, _⟩, _⟩ := r.starts; not_none q) fun ha => List.mem_singleton.mp ha ▸ let ⟨_, ⟨_, q, _⟩, _⟩ := r.lengths; not_none q
noncomputable def isSelf (mc : MC) : V → Bool
  | .ref a => a == mc.x
  | _ => false
@[simp] theorem isSelf_ref (mc : MC) : isSelf mc (.ref mc.x) = true := beq_self_eq_true mc.x
theorem isSelf_eq {mc : MC} {v : V} (h : isSelf mc v = true) : v = .ref mc.x := by
  cases v with
  | ref a => exact congrArg V.ref (eq_of_beq h)
  | _ => cases h
noncomputable abbrev jH : Str := Str.ofString "self"
section
variable {prog : Program} {w : World} {KK : Frag} {G : Gd KK} {mc : MC} {f : Fn} {n : Nat}
noncomputable abbrev RMw (w : World) (G : Gd KK) (mc : MC) : StRep MS := RM w.params G.g mc
theorem MRep.instAt {P : Params} {g h : Heap} {mc : MC} {σ : MS × MX} (r : MRep P g mc σ h) : ∃ k n, W.InstAt h mc.x (instObj 253 mc.dx) 253 (some (dictOf (mEnts P mc σ k) n)) := by
  obtain ⟨k, n, e⟩ := r.dict
  exact ⟨k, n, r.inst, rfl, rfl, e⟩
structure ClsOk (KK : Frag) : Prop where
  ga : findIn KK (.ref 253) "__getattribute__" = some (some (.builtin "object.__getattribute__"))
  gn : findIn KK (.ref 253) "__getattr__" = some none
  sa : findIn KK (.ref 253) "__setattr__" = some (some (.builtin "object.__setattr__"))
  hd : hasDictIn KK 253 = true
  po : plainOver KK 253 = true
theorem self_ {L : Addr} {cl : Cx} {A : Around} {outer : List Env} {s : Shared} {ρ : List V} {σ : MS × MX} {pos : Pos} {Q : Value → Shared → Prop} {E : Value → Shared → Prop} (hF : FOk f) (hi : f.vars[0]? = some jH)
    (W : Wf G (RMw w G mc) (f.env L cl) f.vars outer s.heap ρ σ) (hs : getv ρ 0 = .ok (.ref mc.x)) (h : Q (.ref mc.x) s) : wpAny (model prog w) A (eval (.Name jH pos) (f.env L cl)) Q E s := by
  obtain ⟨hr, hu⟩ := getv_ok hs
  have hd := hF.nodebug jH (List.mem_of_getElem? hi)
  rcases W.var 0 jH _ hi hr hu with ⟨hk', m, vv, hn, hm, r⟩ | ⟨hk', c, vv, hc, hx, hI, r⟩
  · cases r; exact wpAny_Name (wpAny_loadName_local hF.kind hk' hn hm h) hd
  · cases r; exact wpAny_Name (wpAny_loadName_cell hF.kind hk' hc hI h) hd
noncomputable def onSelf {α : Type} (mc : MC) (ρ : List V) (r : Res α) : Res α := (getv ρ 0).bind fun v => bif isSelf mc v then r else .stuck
theorem onSelf_ok {α : Type} {ρ : List V} {r : Res α} (h : onSelf mc ρ r ≠ .stuck) : getv ρ 0 = .ok (.ref mc.x) ∧ onSelf mc ρ r = r := by
  unfold onSelf at h ⊢
  cases hg : getv ρ 0 with
  | err => exact absurd hg getv_err
  | stuck => rw [hg] at h; exact absurd rfl h
  | ok v =>
    rw [hg] at h
    simp only [Res.bind_ok] at h ⊢
    cases hs : isSelf mc v with
    | false => rw [hs] at h; exact absurd rfl h
    | true => exact ⟨by rw [isSelf_eq hs], rfl⟩
theorem onSelf_cons {α : Type} (mc : MC) (ρ : List V) (r : Res α) : onSelf mc (.ref mc.x :: ρ) r = r := by
  unfold onSelf getv; simp
noncomputable def mAttrD {Γ : Type} (μ : Γ → MC) (val : MS → V) : Γ → Dn MS V := fun γ ρ σ => onSelf (μ γ) ρ (.ok (val σ, σ))
@[simp] theorem mAttrD_ap {Γ : Type} (μ : Γ → MC) (val : MS → V) (γ : Γ) (ρ : List V) (σ : MS) : (mAttrD μ val) γ ρ σ = onSelf (μ γ) ρ (.ok (val σ, σ)) := rfl
theorem mAttr {Γ : Type} {γ : Γ} {μ : Γ → MC} {attr : Str} {xp pos : Pos} (val : MS → V) (vv : MS × MX → (Nat → Tok) → Value) (hF : FOk f) (hi : f.vars[0]? = some jH) (C : ClsOk KK) {a : Option Value} (ha : findIn KK (.ref 253) attr = some a) (hn : noGet KK a = true)
    (hget : ∀ σ k, getL attr (mEnts w.params (μ γ) σ k) = some (some (vv σ k))) (hrep : ∀ X h σ k, MRep w.params G.g (μ γ) σ h → Rep X h (vv σ k) (val σ.1)) (hh : ∀ σ k, handedIn (vv σ k) = true)
    (he : ∀ env, eval (.Attribute (.Name jH xp) attr pos) env = (do let o ← eval (.Name jH xp) env; standAt pos.atName; let r ← holding [o] (getAttr o attr true); letTemporaryGo (.Name jH xp) o r; pure r) := by intro; rfl) :
    jW prog w G (RMw w G (μ γ)) f n (.Attribute (.Name jH xp) attr pos) (mAttrD μ val γ) := Snd.mk fun L cl A outer s ρ σ Q E hA W K => by
  simp only [mAttrD_ap] at K
  obtain ⟨h1, h2⟩ := onSelf_ok K.ns
  refine Attribute_Name_ (self_ hF hi W h1 ?_) (he _)
  obtain ⟨k, nn, I⟩ := MRep.instAt W.cal.rep
  have X : KK.In s.heap := fun b o e => W.cal.base b o (G.inK b o e)
  refine get_value X I C.ga (findObj_own C.hd ha hn ((lookIn_dict _ _ _).trans (hget σ k))) (hh σ k) ?_
  exact K.ok _ _ _ _ _ h2 W .refl (hrep _ _ _ _ W.cal.rep)
end
theorem call_attr {M : Model} {A : Around} {E : Value → Shared → Prop} {s : Shared} {env : Env} {o : Expr} {name : Str} {apos pos : Pos} {args : List Expr} {Q : Value → Shared → Prop}
    (hb : attributeBase o name env (eval o env) = eval o env) (hf : methodCallForm (args.length + ([] : List Keyword).length) (backTo pos (starEach args env)) (backToKw pos (keywordEach [] env)) = true) (hl : (apos.endLine == pos.line) = true)
    (h : wpAny M A (eval o env) (fun ov s₁ => ∀ pl, wpAny M A (getMethod ov name pl) (fun p s₂ => wpAny M A (callWith pos p.1 p.2 (backTo pos (starEach args env)) []) Q E s₂) E s₁) E s) :
    wpAny M A (eval (.Call (.Attribute o name apos) args [] pos) env) Q E s := by
  rw [arm_eval_Call, hb]
  refine wpAny_bind (wpAny_mono h (fun ov s₁ h₁ => wpAny_bind (wpAny_standAt ?_)) fun _ _ e => e)
  have hpos : methodCallPos true o env apos pos = pure pos := by unfold methodCallPos; simp [hl]
  unfold methodCall
  rw [hf]
  refine wpAny_bind (wpAny_holding (wpAny_mono (h₁ _) (fun p s₂ h₂ => ?_) fun _ _ e => e))
  exact wpAny_bind (wpAny_of_eq hpos h₂)
section
variable {prog : Program} {w : World} {KK : Frag} {G : Gd KK} {mc : MC} {f : Fn} {n : Nat}
theorem WfK {Sy : Type} {R : StRep Sy} {env : Env} {vars : List Str} {outer : List Env} {h : Heap} {ρ : List V} {σ : R.T} (W : Wf G R env vars outer h ρ σ) : KK.In h := fun b o e => W.cal.base b o (G.inK b o e)
theorem mMethod {L : Addr} {A : Around} {s : Shared} {σ : MS × MX} {name : Str} {fa : Addr} {pl : Sem Bool} {Q : Value × List Value → Shared → Prop} {E : Value → Shared → Prop} (C : ClsOk KK) (X : KK.In s.heap) (r : MRep w.params G.g mc σ s.heap)
    (hf : findIn KK (.ref 253) name = some (some (.ref fa))) (ht : typeIn KK (.ref fa) = some (.type "function")) (hl : ∀ σ k, getL name (mEnts w.params mc σ k) = some none) (h : Q (.ref fa, [.ref mc.x]) s) :
    wpAny (model prog w) A (getMethod (.ref mc.x) name pl) Q E s := by
  obtain ⟨k, nn, I⟩ := r.instAt
  exact method_fn X I C.ga C.gn hf ht (by show (lookIn name (dictOf _ nn)).map _ = _; rw [lookIn_dict, hl]; rfl) h
noncomputable def mCallD {Γ : Type} (μ : Γ → MC) (F : Γ → List V → MS → Res (V × MS)) (Fs : Γ → Dn MS (List V)) : Γ → Dn MS V := fun γ ρ σ => onSelf (μ γ) ρ (((Fs γ) ρ σ).bind fun p => (F γ) (.ref (μ γ).x :: p.1) p.2)
theorem mCall {Γ : Type} {γ : Γ} {μ : Γ → MC} {name : Str} {xp apos pos : Pos} {a : Expr} {as : List Expr} {fa : Addr} {m : Nat} {F : Γ → List V → MS → Res (V × MS)} {Fs : Γ → Dn MS (List V)} (hF : FOk f) (hi : f.vars[0]? = some jH) (C : ClsOk KK)
    (hfs : FS prog w G (RMw w G (μ γ)) fa m (F γ)) (hm : m ≤ n) (hl : SndL prog w G (RMw w G (μ γ)) f n pos (a :: as) (Fs γ))
    (hf : findIn KK (.ref 253) name = some (some (.ref fa))) (ht : typeIn KK (.ref fa) = some (.type "function")) (hg : ∀ σ k, getL name (mEnts w.params (μ γ) σ k) = some none) (hkeep : keepIn KK (.ref fa) = true) (hline : (apos.endLine == pos.line) = true)
    (hb : ∀ env, attributeBase (.Name jH xp) name env (eval (.Name jH xp) env) = eval (.Name jH xp) env := by intro; rfl)
    (hform : ∀ env, methodCallForm ((a :: as).length + ([] : List Keyword).length) (backTo pos (starEach (a :: as) env)) (backToKw pos (keywordEach [] env)) = true := by intro; rfl)
    (h1 : ∀ env, starEach (a :: as) env = (false, eval a env) :: starEach as env := by intro; rfl) (h2 : ∀ env, ((backTo pos (starEach as env)).any fun x => x.1) = false := by intro; rfl) :
    jW prog w G (RMw w G (μ γ)) f n (.Call (.Attribute (.Name jH xp) name apos) (a :: as) [] pos) (mCallD μ F Fs γ) := Snd.mk fun L cl A outer s ρ σ Q E hA W K => by
  obtain ⟨e1, e2⟩ := onSelf_ok K.ns
  have K := K.to e2
  refine call_attr (hb _) (hform _) hline (self_ hF hi W e1 fun pl => mMethod (L := L) C (WfK W) W.cal.rep hf ht hg ?_)
  refine callWith_K G.inK hkeep ?_ (h1 _) (h2 _)
  refine hl.run hA W W .refl K fun v σ₁ vv h₁ tk₁ e₁ W₁ _ S₁ r₁ K₁ => ⟨fun b o e => W₁.cal.base b o (G.inK b o e), ?_⟩
  exact hfs.run (s := ⟨_, _, _, _, _⟩) hm hA W W₁ S₁ (.cons (.ref _) r₁) K₁.tail fun v₂ σ₂ vv₂ h₂ tk₂ e₂ W₂ T₂ S₂ r₂ K₂ => K₂.ok _ _ _ _ _ rfl W₂ S₂ r₂
noncomputable def mCall0D {Γ : Type} (μ : Γ → MC) (F : Γ → List V → MS → Res (V × MS)) : Γ → Dn MS V := fun γ ρ σ => onSelf (μ γ) ρ ((F γ) [.ref (μ γ).x] σ)
theorem mCall0 {Γ : Type} {γ : Γ} {μ : Γ → MC} {name : Str} {xp apos pos : Pos} {fa : Addr} {m : Nat} {F : Γ → List V → MS → Res (V × MS)} (hF : FOk f) (hi : f.vars[0]? = some jH) (C : ClsOk KK)
    (hfs : FS prog w G (RMw w G (μ γ)) fa m (F γ)) (hm : m ≤ n)
    (hf : findIn KK (.ref 253) name = some (some (.ref fa))) (ht : typeIn KK (.ref fa) = some (.type "function")) (hg : ∀ σ k, getL name (mEnts w.params (μ γ) σ k) = some none) (hkeep : keepIn KK (.ref fa) = true) (hline : (apos.endLine == pos.line) = true)
    (hb : ∀ env, attributeBase (.Name jH xp) name env (eval (.Name jH xp) env) = eval (.Name jH xp) env := by intro; rfl)
    (hform : ∀ env, methodCallForm (([] : List Expr).length + ([] : List Keyword).length) (backTo pos (starEach [] env)) (backToKw pos (keywordEach [] env)) = true := by intro; rfl) :
    jW prog w G (RMw w G (μ γ)) f n (.Call (.Attribute (.Name jH xp) name apos) [] [] pos) (mCall0D μ F γ) := Snd.mk fun L cl A outer s ρ σ Q E hA W K => by
  obtain ⟨e1, e2⟩ := onSelf_ok K.ns
  have K := K.to e2
  refine call_attr (hb _) (hform _) hline (self_ hF hi W e1 fun pl => mMethod (L := L) C (WfK W) W.cal.rep hf ht hg ?_)
  refine callWith_K0 (WfK W) hkeep ?_
  exact hfs.run (vs := [.ref (μ γ).x]) hm hA W W .refl (.cons (.ref _) .nil) K.tail fun v₂ σ₂ vv₂ h₂ tk₂ e₂ W₂ T₂ S₂ r₂ K₂ => K₂.ok _ _ _ _ _ rfl W₂ S₂ r₂
theorem local_ {Sy : Type} {R : StRep Sy} {L : Addr} {cl : Cx} {A : Around} {outer : List Env} {s : Shared} {ρ : List V} {σ : R.T} {x : Str} {pos : Pos} {i : Nat} {v : V} {Q : Value → Shared → Prop} {E : Value → Shared → Prop} (hF : FOk f) (hi : f.vars[i]? = some x)
    (W : Wf G R (f.env L cl) f.vars outer s.heap ρ σ) (hs : getv ρ i = .ok v) (h : ∀ vv, Rep (R.foot σ) s.heap vv v → Q vv s) : wpAny (model prog w) A (eval (.Name x pos) (f.env L cl)) Q E s := by
  obtain ⟨hr, hu⟩ := getv_ok hs
  have hd := hF.nodebug x (List.mem_of_getElem? hi)
  rcases W.var i x _ hi hr hu with ⟨hk', m, vv, hn, hm, r⟩ | ⟨hk', c, vv, hc, hx, hI, r⟩
  · exact wpAny_Name (wpAny_loadName_local hF.kind hk' hn hm (h _ r)) hd
  · exact wpAny_Name (wpAny_loadName_cell hF.kind hk' hc hI (h _ r)) hd
noncomputable def lget (isS : Bool) (σ : MS) : List Int := bif isS then σ.starts else σ.lengths
noncomputable def lat (isS : Bool) (τ : MS × MX) : Addr := bif isS then τ.2.la else τ.2.lb
theorem MRep.list {P : Params} {g h : Heap} {mc : MC} {τ : MS × MX} (r : MRep P g mc τ h) (isS : Bool) : (∃ vs, h.IsList (lat isS τ) vs.toArray ∧ IntsAre vs (lget isS τ.1)) ∧ (lget isS τ.1).length ≤ 2000 := by
  cases isS
  · exact ⟨r.lengths, r.zl⟩
  · exact ⟨r.starts, r.zs⟩
noncomputable def lname (isS : Bool) : Str := bif isS then Str.ofString "starts" else Str.ofString "lengths"
theorem lhget (P : Params) (mc : MC) (isS : Bool) (τ : MS × MX) (k : Nat → Tok) : getL (lname isS) (mEnts P mc τ k) = some (some (.ref (lat isS τ))) := by cases isS <;> rfl
structure LAOk (KK : Frag) (isS : Bool) : Prop where
  find : ∃ x, findIn KK (.ref 253) (lname isS) = some x ∧ noGet KK x = true
  take : takerIn KK 253 (lname isS) = some none
noncomputable def evPlace (l : List Int) (v : V) : Option Int := v.int?.bind fun j => if 0 ≤ j ∧ j < (l.length : Int) then some (l.getD j.toNat 0) else none
theorem evPlace_inv {l : List Int} {v : V} {z : Int} (e : evPlace l v = some z) : ∃ j, v = .int j ∧ (0 ≤ j ∧ j < (l.length : Int)) ∧ z = l.getD j.toNat 0 := by
  obtain ⟨j, hj, e⟩ := Option.bind_eq_some_iff.mp e
  by_cases h : 0 ≤ j ∧ j < (l.length : Int)
  · exact ⟨j, V.of_int hj, h, (Option.some.inj ((if_pos h).symm.trans e)).symm⟩
  · exact nomatch (if_neg h).symm.trans e
noncomputable def mItemD {Γ : Type} (μ : Γ → MC) (isS : Bool) (i : Nat) : Γ → Dn MS V := fun γ ρ σ => onSelf (μ γ) ρ ((getv ρ i).bind fun v => (jV (evPlace (lget isS σ) v)).bind fun j => .ok (.int j, σ))
theorem mItem {Γ : Type} {γ : Γ} {μ : Γ → MC} {attr x : Str} {ap xp ip pos : Pos} (isS : Bool) (i : Nat) (hF : FOk f) (hi : f.vars[0]? = some jH) (C : ClsOk KK) (O : LAOk KK isS) (hat : attr = lname isS) (hix : f.vars[i]? = some x)
    (he : ∀ env, eval (.Attribute (.Name jH xp) attr ap) env = (do let o ← eval (.Name jH xp) env; standAt ap.atName; let r ← holding [o] (getAttr o attr true); letTemporaryGo (.Name jH xp) o r; pure r) := by intro; rfl) :
    jW prog w G (RMw w G (μ γ)) f n (.Subscript (.Attribute (.Name jH xp) attr ap) (.Name x ip) pos) (mItemD μ isS i γ) := Snd.mk fun L cl A outer s ρ σ Q E hA W K => by
  subst hat
  obtain ⟨e1, e2⟩ := onSelf_ok K.ns
  have K := K.to e2
  refine Subscript_ (Attribute_Name_ (self_ hF hi W e1 ?_) (he _))
  obtain ⟨k, nn, I⟩ := MRep.instAt W.cal.rep
  obtain ⟨a, ha, hn⟩ := O.find
  refine get_value (WfK W) I C.ga (findObj_own C.hd ha hn ((lookIn_dict _ _ _).trans (lhget _ _ isS σ k))) rfl ?_
  obtain ⟨v, hg, e3⟩ := getv_ne K.ns
  have K := K.to e3
  obtain ⟨z, hz, e4⟩ := ofOpt_ne K.ns
  have K := K.to e4
  obtain ⟨j, rfl, hj, rfl⟩ := evPlace_inv hz
  refine local_ (s := ⟨_, _, _, _, _⟩) hF hix W hg fun vv r => ?_
  obtain ⟨t, rfl⟩ := r.int? rfl
  obtain ⟨⟨vs, hL, hI⟩, hz⟩ := MRep.list W.cal.rep isS
  have hlen := hI.length
  obtain ⟨u, hu⟩ := hI.get j.toNat _ (ints_getD hj.1 hj.2)
  refine tail_any (Heap.IsList.typeIs (s := ⟨_, _, _, _, _⟩) hL) slot_list_getitem.lookup (wpAny_getItem_list (s := ⟨_, _, _, _, _⟩) hL hj.1 (by omega) (by simpa using hu) ?_) (ops := [.ref _, .int j t]) rfl
  exact K.ok _ _ _ _ _ rfl W .refl (.int _ _)
theorem Wf.wrote {Sy : Type} {R : StRep Sy} {L d : Addr} {cl : Cx} {outer : List Env} {h h' : Heap} {ρ : List V} {σ σ' : R.T} {es es' : List DictEntry} {nn nn' : Nat} {m : Str → Option Value} (hC : f.isC = false) (W : Wf G R (f.env L cl) f.vars outer h ρ σ) (hm : h.Ns L m) (hm' : h'.Ns L m)
    (hd : d ∈ R.foot σ) (hn : G.g.get? d = none) (ed : h.get? d = some (dictOf es nn)) (ed' : h'.get? d = some (dictOf es' nn')) (ex : ∀ b o, h.get? b = some o → b ≠ L → b ≠ d → h'.get? b = some o) (gr : Grow (R.foot σ) (R.foot σ') h) (rep' : R.rep σ' h') :
    Wf G R (f.env L cl) f.vars outer h' ρ σ' ∧ Stp R [L] h σ h' σ' := by
  have eL := Fn.loc (L := L) (cl := cl) hC
  have kp : Keep (L :: R.foot σ) h h' := fun b o e hb => ⟨o.slots, ex b o e (fun q => hb (q ▸ .head _)) (fun q => hb (q ▸ .tail _ hd)), fun _ => rfl⟩
  have rk : ∀ {a : Value} {y : V}, Rep (R.foot σ) h a y → Rep (R.foot σ') h' a y := fun r => r.keep kp gr fun b hb => by
    rcases List.mem_cons.mp hb with rfl | hb
    · exact .inr (Wf.F_dict W)
    · exact .inl hb
  have ng : ∀ {b}, h.get? b ≠ none → b ∉ R.foot σ → b ∉ R.foot σ' := fun hb hf z => (gr _ z).elim hf hb
  refine ⟨⟨W.above, ⟨fun b o e => ex b o (W.cal.base b o e) (fun q => by rw [q, W.base_L] at e; cases e) (fun q => by rw [q, hn] at e; cases e), ff_mono (fun b o e hd => ?_) W.cal.ff, fun e he b hb => ?_, rep'⟩, W.top, ⟨L, m, rfl, hm'⟩, ⟨m, eL.symm ▸ hm'⟩, eL.symm ▸ ng (Wf.F_ne W) (Wf.F_foot W), fun i y v' hi hv hne => ?_⟩, ⟨kp, gr⟩⟩
  · by_cases e1 : b = L
    · subst e1
      obtain ⟨oL, es, ep, hoL, hdL, _⟩ := hm'
      exact ⟨oL, hoL, fun vs z => by rw [hdL] at z; cases z⟩
    · by_cases e2 : b = d
      · subst e2; exact ⟨_, ed', fun vs z => by cases z⟩
      · exact ⟨o, ex b o e e1 e2, hd⟩
  · refine ng ?_ (W.cal.nf e he b hb)
    rw [(W.cal.ff.mem (List.mem_filterMap.mpr ⟨e, he, hb⟩)).2.choose_spec.1]; exact fun z => nomatch z
  · rcases W.var i y v' hi hv hne with ⟨hk', m', vv', hn', hx, r'⟩ | ⟨hk', c, vv', hc, hx', ⟨oc, hoc, hdc⟩, r'⟩
    · exact .inl ⟨hk', m, vv', eL.symm ▸ hm', by rw [ns_unique hm (eL ▸ hn')]; exact hx, rk r'⟩
    · refine .inr ⟨hk', c, vv', hc, ng (by rw [hoc]; exact fun z => nomatch z) hx', ⟨oc, ex c oc hoc (fun q => ?_) (fun q => ?_), hdc⟩, rk r'⟩
      · obtain ⟨oL, es, ep, hoL, hdL, _⟩ := hm
        rw [q, hoL] at hoc; cases hoc; rw [hdL] at hdc; cases hdc
      · rw [q, ed] at hoc; cases hoc; cases hdc
theorem not_dict {h : Heap} {a L d : Addr} {vs : List Value} {m : Str → Option Value} {nn : Nat} {es : List DictEntry} (hm : h.Ns L m) (ed : h.get? d = some (dictOf es nn)) (hl : h.IsList a vs.toArray) : a ≠ L ∧ a ≠ d := by
  obtain ⟨o, ho, hc, n, hd⟩ := hl
  refine ⟨fun e => ?_, fun e => ?_⟩
  · obtain ⟨oL, es, ep, hoL, hdL, _⟩ := hm; rw [e, hoL] at ho; cases ho; rw [hdL] at hd; cases hd
  · rw [e, ed] at ho; cases ho; cases hd
theorem dStore {Sy : Type} {R : StRep Sy} {L x d : Addr} {cl : Cx} {A : Around} {outer : List Env} {s : Shared} {h₁ : Heap} {ρ : List V} {σ σ' : R.T} {es es' : List DictEntry} {nn : Nat} {name : Str} {v : Value} {Q : Unit → Shared → Prop} {E : Value → Shared → Prop} (C : ClsOk KK) (hC : f.isC = false)
    (W : Wf G R (f.env L cl) f.vars outer h₁ ρ σ) (st : h₁.StaysIn s.heap) (ht : takerIn KK 253 name = some none) (ix : h₁.get? x = some (instObj 253 d)) (ed : h₁.get? d = some (dictOf es nn)) (hx : x ∈ R.foot σ) (hd : d ∈ R.foot σ) (hn : G.g.get? d = none)
    (hget : (getL name es).isSome = true) (hput : putL name (PyData.keyHash w.params name) (.str name (s.toks + 1)) v es = es') (hlen : es'.length ≤ 64) (gr : Grow (R.foot σ) (R.foot σ') h₁)
    (rep' : ∀ h', h'.get? x = some (instObj 253 d) → (∃ n, h'.get? d = some (dictOf es' n)) → (∀ a (vs : List Value), s.heap.IsList a vs.toArray → h'.IsList a vs.toArray) → R.rep σ' h')
    (h : ∀ h' tk, Wf G R (f.env L cl) f.vars outer h' ρ σ' → Stp R [L] h₁ σ h' σ' → Q () { s with heap := h', toks := tk }) : wpAny (model prog w) A (setAttr (.ref x) name v) Q E s := by
  have W2 := W.stays st
  have ed2 := st _ _ ed
  have ix2 := st _ _ ix
  have I : _root_.PySem.W.InstAt s.heap x (instObj 253 d) 253 (some (dictOf es nn)) := ⟨ix2, rfl, rfl, ed2⟩
  obtain ⟨m, hm⟩ := W.frame
  have hm2 : s.heap.Ns L m := hm.keeps st
  have hL : ∀ {b}, b ∈ R.foot σ → b ≠ L := fun hb e => Wf.F_foot W (e ▸ hb)
  have F : Fr {} L s.heap m := ⟨hm2, (fun b o e => by cases e), Nat.zero_le _⟩
  have N : News {} L s.heap (others s.heap [L, d] ++ (d, dictOf es nn) :: []) := fun p hp => by
    rcases List.mem_append.mp hp with hp | hp
    · exact news_others (.head _) p hp
    · cases List.mem_singleton.mp hp; exact ⟨ed2, hL hd, rfl⟩
  refine set_plain (WfK W2) I C.sa (osa_dict (s := ⟨_, _, _, _, _⟩) F N (WfK W2) I rfl C.po ht C.hd (by rw [lookIn_dict]; exact hget) (fun p hp => fun e => (mem_others.mp hp).2 (by rw [e]; simp)) (fun p hp => nomatch hp) (putName_dict _ _ _ _ _ _) rfl (by rw [hput]; exact Nat.le_trans hlen (Nat.le_of_ble_eq_true rfl)) fun h' F' N' => ?_)
  rw [hput] at N'
  have ex : ∀ b o, s.heap.get? b = some o → b ≠ L → b ≠ d → h'.get? b = some o := fun b o e e1 e2 => (N' (b, o) (List.mem_append_left _ (mem_others.mpr ⟨e, by simp [e1, e2]⟩))).1
  have ed' : h'.get? d = some (dictOf es' _) := (N' (d, _) (List.mem_append_right _ (.head _))).1
  have hxd : x ≠ d := fun e => by rw [e, ed] at ix; cases ix
  obtain ⟨W', S'⟩ := Wf.wrote hC W hm F'.ns hd hn ed ed' (fun b o e => ex b o (st b o e)) gr (rep' h' (ex _ _ ix2 (hL hx) hxd) ⟨_, ed'⟩ fun a vs hl => (by
    obtain ⟨e1, e2⟩ := not_dict hm2 ed2 hl
    obtain ⟨o, ho, r⟩ := hl
    exact ⟨o, ex _ _ ho e1 e2, r⟩))
  exact h h' _ W' S'
theorem base_none {Sy : Type} {R : StRep Sy} {l : List Env} {h : Heap} {σ : R.T} {a : Addr} (W : Cal G R l h σ) (e : h.get? a = none) : G.g.get? a = none := by
  cases q : G.g.get? a with
  | none => rfl
  | some o => rw [W.base _ _ q] at e; cases e
theorem mStore {L : Addr} {cl : Cx} {A : Around} {outer : List Env} {s : Shared} {h₁ : Heap} {ρ : List V} {σ σ' : MS × MX} {name : Str} {v : Value} {Q : Unit → Shared → Prop} {E : Value → Shared → Prop} (C : ClsOk KK) (hC : f.isC = false)
    (W : Wf G (RMw w G mc) (f.env L cl) f.vars outer h₁ ρ σ) (st : h₁.StaysIn s.heap) (ht : takerIn KK 253 name = some none) {u : Value} (kk : (Nat → Tok) → Nat → Tok)
    (hget : ∀ k, ∃ u, getL name (mEnts w.params mc σ k) = some (some u)) (hput : ∀ k tk, putL name (PyData.keyHash w.params name) (.str name tk) v (mEnts w.params mc σ k) = mEnts w.params mc σ' (kk k))
    (hS : ∃ vs, s.heap.IsList σ'.2.la vs.toArray ∧ IntsAre vs σ'.1.starts) (hLn : ∃ vs, s.heap.IsList σ'.2.lb vs.toArray ∧ IntsAre vs σ'.1.lengths)
    (hla : σ'.2.la = σ.2.la ∨ h₁.get? σ'.2.la = none) (hlb : σ'.2.lb = σ.2.lb ∨ h₁.get? σ'.2.lb = none) (hap : σ'.2.la ≠ σ'.2.lb) (zs : σ'.1.starts.length ≤ 2000) (zl : σ'.1.lengths.length ≤ 2000)
    (h : ∀ h' tk, Wf G (RMw w G mc) (f.env L cl) f.vars outer h' ρ σ' → Stp (RMw w G mc) [L] h₁ σ h' σ' → Q () { s with heap := h', toks := tk }) : wpAny (model prog w) A (setAttr (.ref mc.x) name v) Q E s := by
  have R := W.cal.rep
  obtain ⟨k, nn, ed⟩ := R.dict
  refine dStore C hC W st ht R.inst ed (.head _) (.tail _ (.head _)) R.ndx (by obtain ⟨u, hu⟩ := hget k; rw [hu]; rfl) (hput k _) (Nat.le_of_ble_eq_true rfl) (fun b hb => ?_) (fun h' ix ed' lk => ?_) h
  · cases hb with
    | head => exact .inl (.head _)
    | tail _ hb =>
    cases hb with
    | head => exact .inl (.tail _ (.head _))
    | tail _ hb =>
    cases hb with
    | head => exact hla.elim (fun e => .inl (by rw [e]; exact .tail _ (.tail _ (.head _)))) .inr
    | tail _ hb => rw [List.mem_singleton.mp hb]; exact hlb.elim (fun e => .inl (by rw [e]; exact .tail _ (.tail _ (.tail _ (.head _))))) .inr
  · obtain ⟨vs, a, b⟩ := hS
    obtain ⟨us, c, d⟩ := hLn
    exact ⟨ix, ⟨_, ed'⟩, ⟨vs, lk _ _ a, b⟩, ⟨us, lk _ _ c, d⟩, R.nx, R.ndx, hla.elim (fun e => e ▸ R.nla) (base_none W.cal), hlb.elim (fun e => e ▸ R.nlb) (base_none W.cal), hap, R.ztext, R.zpat, zs, zl⟩
end
section
variable {prog : Program} {w : World} {KK : Frag} {G : Gd KK} {mc : MC} {f : Fn} {n : Nat}
inductive IA where
  | depth | level
noncomputable def IA.name : IA → Str
  | .depth => Str.ofString "depth"
  | .level => Str.ofString "level"
noncomputable def IA.get : IA → MS → Int
  | .depth, σ => σ.depth
  | .level, σ => σ.level
noncomputable def IA.set : IA → MS → Int → MS
  | .depth, σ, i => { σ with depth := i }
  | .level, σ, i => { σ with level := i }
noncomputable def IA.tok : IA → Nat
  | .depth => 8
  | .level => 10
theorem IA.hget (P : Params) (mc : MC) (a : IA) (τ : MS × MX) (k : Nat → Tok) : getL a.name (mEnts P mc τ k) = some (some (.int (a.get τ.1) (k a.tok))) := by cases a <;> rfl
theorem IA.hput (P : Params) (mc : MC) (a : IA) (τ : MS × MX) (i : Int) (t : Tok) (k : Nat → Tok) (tk : Tok) : putL a.name (PyData.keyHash P a.name) (.str a.name tk) (.int i t) (mEnts P mc τ k) = mEnts P mc (a.set τ.1 i, τ.2) (fun j => if j = a.tok then t else k j) := by cases a <;> rfl
structure IAOk (KK : Frag) (a : IA) : Prop where
  find : ∃ x, findIn KK (.ref 253) a.name = some x ∧ noGet KK x = true
  take : takerIn KK 253 a.name = some none
theorem mSetI {L : Addr} {cl : Cx} {A : Around} {outer : List Env} {s : Shared} {ρ : List V} {σ : MS × MX} {Q : Unit → Shared → Prop} {E : Value → Shared → Prop} (a : IA) (C : ClsOk KK) (hC : f.isC = false) (O : IAOk KK a)
    (W : Wf G (RMw w G mc) (f.env L cl) f.vars outer s.heap ρ σ) {i : Int} {t : Tok}
    (h : ∀ h' tk, Wf G (RMw w G mc) (f.env L cl) f.vars outer h' ρ (a.set σ.1 i, σ.2) → Stp (RMw w G mc) [L] s.heap σ h' (a.set σ.1 i, σ.2) → Q () { s with heap := h', toks := tk }) : wpAny (model prog w) A (setAttr (.ref mc.x) a.name (.int i t)) Q E s := by
  have R := W.cal.rep
  have e3 : (a.set σ.1 i).starts = σ.1.starts := by cases a <;> rfl
  have e4 : (a.set σ.1 i).lengths = σ.1.lengths := by cases a <;> rfl
  exact mStore (σ' := (a.set σ.1 i, σ.2)) (u := .none) C hC W (StaysIn.refl _) O.take (fun k j => if j = a.tok then t else k j) (fun k => ⟨_, a.hget _ _ _ _⟩) (fun k tk => a.hput _ _ _ _ _ _ _) (by rw [e3]; exact R.starts) (by rw [e4]; exact R.lengths) (.inl rfl) (.inl rfl) R.apart (by rw [e3]; exact R.zs) (by rw [e4]; exact R.zl) h
noncomputable def sSetID {Γ : Type} (μ : Γ → MC) (F : Γ → Dn MS V) (a : IA) : Γ → Dn MS (Out × List V) := fun γ ρ σ => ((F γ) ρ σ).bind fun p => onSelf (μ γ) ρ ((jV p.1.int?).bind fun i => .ok ((.next, ρ), a.set p.2 i))
theorem sSetI {Γ : Type} {γ : Γ} {μ : Γ → MC} {xp pos pos' : Pos} {e : Expr} {F : Γ → Dn MS V} (a : IA) (hF : FOk f) (hi : f.vars[0]? = some jH) (C : ClsOk KK) (O : IAOk KK a) (hx : jW prog w G (RMw w G (μ γ)) f n e (F γ))
    {nm : Str} (hnm : nm = a.name) (hsw : ∀ env, swapsWith e (some (.Attribute (.Name jH xp) nm pos')) pos.line env = pure false := by intro; rfl) (hC : f.isC = false := by rfl) :
    SndS prog w G (RMw w G (μ γ)) f n (.Assign [.Attribute (.Name jH xp) nm pos'] e pos) (sSetID μ F a γ) := SndG.mk fun L cl A outer s ρ σ Q E hA W K => by
  subst hnm
  refine plainObj_wpAny_Assign_Attribute (hx.runS hA W W .refl K fun v σ₁ vv h₁ tk₁ e₁ W₁ _ S₁ r₁ K₁ => ?_) (hsw _)
  obtain ⟨h1, h2⟩ := onSelf_ok K₁.ns
  have K₁ := K₁.to h2
  obtain ⟨i, hi', h3⟩ := ofOpt_ne K₁.ns
  have K₁ := K₁.to h3
  obtain ⟨t, rfl⟩ := r₁.int? hi'
  exact self_ (s := ⟨_, _, _, _, _⟩) hF hi W₁ h1 (mSetI (s := ⟨_, _, _, _, _⟩) a C hC O W₁ fun h' tk W₂ S₂ => K₁.ok _ _ (a.set σ₁.1 _, σ₁.2) .next _ _ rfl W₂ (S₁.trans W₁ S₂) trivial)
noncomputable def sAugID {Γ : Type} (μ : Γ → MC) (F : Γ → Dn MS V) (ev : V → V → Option V) (a : IA) : Γ → Dn MS (Out × List V) := fun γ ρ σ => onSelf (μ γ) ρ (((F γ) ρ σ).bind fun p => (jV (ev (.int (a.get σ)) p.1)).bind fun v => (jV v.int?).bind fun i => .ok ((.next, ρ), a.set p.2 i))
theorem sAugI {Γ : Type} {γ : Γ} {μ : Γ → MC} {xp pos pos' : Pos} {op : Operator} {e : Expr} {F : Γ → Dn MS V} {ev : V → V → Option V} (a : IA) (hF : FOk f) (hi : f.vars[0]? = some jH) (C : ClsOk KK) (O : IAOk KK a) (hop : Op2 prog w Rep (inplaceOp op) ev) (hx : jW prog w G (RMw w G (μ γ)) f n e (F γ)) {nm : Str} (hnm : nm = a.name) (hC : f.isC = false := by rfl) :
    SndS prog w G (RMw w G (μ γ)) f n (.AugAssign (.Attribute (.Name jH xp) nm pos') op e pos) (sAugID μ F ev a γ) := SndG.mk fun L cl A outer s ρ σ Q E hA W K => by
  subst hnm
  obtain ⟨h1, h2⟩ := onSelf_ok K.ns
  have K := K.to h2
  refine wpAny_AugAssign_AttributeAny (self_ hF hi W h1 ?_)
  obtain ⟨k, nn, I⟩ := MRep.instAt W.cal.rep
  obtain ⟨xx, hxf, hxg⟩ := O.find
  refine get_value (WfK W) I C.ga (findObj_own C.hd hxf hxg ((lookIn_dict _ _ _).trans (a.hget _ _ _ _))) rfl ?_
  refine hx.runS (s := ⟨_, _, _, _, _⟩) hA W W .refl ⟨K.ok, K.er, K.ns⟩ fun v σ₁ vv h₁ tk₁ e₁ W₁ T₁ S₁ r₁ K₁ => ?_
  obtain ⟨z, e₂, e₃⟩ := ofOpt_ne K₁.ns
  have K₁ := K₁.to e₃
  obtain ⟨i, hi', e₄⟩ := ofOpt_ne K₁.ns
  have K₁ := K₁.to e₄
  refine hop A _ ((RMw w G (μ γ)).foot σ₁) _ vv (.int (a.get σ.1)) v z _ _ hA.handled (by have := hA.units; omega) ((RMw w G (μ γ)).live W₁.cal.rep) (.int _ _) r₁ e₂ fun vv₂ h₂ tk₂ st r₂ => ?_
  obtain ⟨t, rfl⟩ := r₂.int? hi'
  exact mSetI (s := ⟨_, _, _, _, _⟩) a C hC O (W₁.stays st) fun h' tk W₂ S₂ => K₁.ok _ _ (a.set σ₁.1 _, σ₁.2) .next _ _ rfl W₂ ((S₁.trans W₁ (.of_stays st)).trans (W₁.stays st) S₂) trivial
noncomputable def lset (isS : Bool) (σ : MS) (l : List Int) : MS := bif isS then { σ with starts := l } else { σ with lengths := l }
noncomputable def xset (isS : Bool) (χ : MX) (a : Addr) : MX := bif isS then { χ with la := a } else { χ with lb := a }
theorem lhput (P : Params) (mc : MC) (isS : Bool) (τ : MS × MX) (l : List Int) (a : Addr) (k : Nat → Tok) (tk : Tok) : putL (lname isS) (PyData.keyHash P (lname isS)) (.str (lname isS) tk) (.ref a) (mEnts P mc τ k) = mEnts P mc (lset isS τ.1 l, xset isS τ.2 a) k := by cases isS <;> rfl
theorem mSetL {L : Addr} {cl : Cx} {A : Around} {outer : List Env} {s : Shared} {ρ : List V} {σ : MS × MX} {Q : Unit → Shared → Prop} {E : Value → Shared → Prop} (isS : Bool) (C : ClsOk KK) (hC : f.isC = false) (O : LAOk KK isS)
    (W : Wf G (RMw w G mc) (f.env L cl) f.vars outer s.heap ρ σ) {vs : List Value} {l : List Int} (hl : IntsAre vs l) (hz : l.length ≤ 2000)
    (h : ∀ h' tk χ, Wf G (RMw w G mc) (f.env L cl) f.vars outer h' ρ (lset isS σ.1 l, χ) → Stp (RMw w G mc) [L] s.heap σ h' (lset isS σ.1 l, χ) → Q () { s with heap := h', toks := tk }) :
    wpAny (model prog w) A (setAttr (.ref mc.x) (lname isS) (.ref s.heap.objs.size)) Q E { s with heap := s.heap.push { cls := .type "list", data := .seq vs.toArray } } := by
  have R := W.cal.rep
  have st := StaysIn.push s.heap { cls := .type "list", data := .seq vs.toArray }
  have hn : s.heap.get? s.heap.objs.size = none := by
    cases q : s.heap.get? s.heap.objs.size with
    | none => rfl
    | some o => exact absurd (Heap.lt_size q) (Nat.lt_irrefl _)
  have hL : (s.heap.push { cls := .type "list", data := .seq vs.toArray }).IsList s.heap.objs.size vs.toArray := ⟨_, Heap.get?_push_size _ rfl, rfl, 0, rfl⟩
  have k1 : ∃ vs', (s.heap.push { cls := .type "list", data := .seq vs.toArray }).IsList σ.2.la vs'.toArray ∧ IntsAre vs' σ.1.starts := let ⟨v, ⟨o, ho, r⟩, b⟩ := R.starts; ⟨v, ⟨o, st _ _ ho, r⟩, b⟩
  have k2 : ∃ vs', (s.heap.push { cls := .type "list", data := .seq vs.toArray }).IsList σ.2.lb vs'.toArray ∧ IntsAre vs' σ.1.lengths := let ⟨v, ⟨o, ho, r⟩, b⟩ := R.lengths; ⟨v, ⟨o, st _ _ ho, r⟩, b⟩
  have na : s.heap.objs.size ≠ σ.2.la := fun e => by obtain ⟨v, ⟨o, ho, _⟩, _⟩ := R.starts; rw [← e, hn] at ho; cases ho
  have nb : s.heap.objs.size ≠ σ.2.lb := fun e => by obtain ⟨v, ⟨o, ho, _⟩, _⟩ := R.lengths; rw [← e, hn] at ho; cases ho
  refine mStore (s := ⟨_, _, _, _, _⟩) (u := .none) (σ' := (lset isS σ.1 l, xset isS σ.2 s.heap.objs.size)) C hC W st O.take (fun k => k) (fun k => ⟨_, lhget _ _ _ _ _⟩) (fun k tk => lhput _ _ _ _ l _ _ _) ?_ ?_ ?_ ?_ ?_ ?_ ?_ fun h' tk W' S' => h h' tk _ W' S'
  all_goals cases isS
  · exact k1
  · exact ⟨vs, hL, hl⟩
  · exact ⟨vs, hL, hl⟩
  · exact k2
  · exact .inl rfl
  · exact .inr hn
  · exact .inr hn
  · exact .inl rfl
  · exact fun e => na e.symm
  · exact nb
  · exact R.zs
  · exact hz
  · exact hz
  · exact R.zl
noncomputable def sSetNilD {Γ : Type} (μ : Γ → MC) (isS : Bool) : Γ → Dn MS (Out × List V) := fun γ ρ σ => onSelf (μ γ) ρ (.ok ((.next, ρ), lset isS σ []))
theorem sSetNil {Γ : Type} {γ : Γ} {μ : Γ → MC} {xp pos pos' lp : Pos} (isS : Bool) (hF : FOk f) (hi : f.vars[0]? = some jH) (C : ClsOk KK) (O : LAOk KK isS)
    {nm : Str} (hnm : nm = lname isS) (hsw : ∀ env, swapsWith (.List [] lp) (some (.Attribute (.Name jH xp) nm pos')) pos.line env = pure false := by intro; rfl) (hC : f.isC = false := by rfl) :
    SndS prog w G (RMw w G (μ γ)) f n (.Assign [.Attribute (.Name jH xp) nm pos'] (.List [] lp) pos) (sSetNilD μ isS γ) := SndG.mk fun L cl A outer s ρ σ Q E hA W K => by
  subst hnm
  obtain ⟨h1, h2⟩ := onSelf_ok K.ns
  refine plainObj_wpAny_Assign_Attribute (List_ (spliced_nil (wpAny_newList ?_ (by decide)))) (hsw _)
  have st := StaysIn.push s.heap { cls := .type "list", data := .seq ([] : List Value).toArray }
  refine self_ (s := ⟨_, _, _, _, _⟩) hF hi (W.stays st) h1 ?_
  refine mSetL (s := s) isS C hC O W .nil (Nat.zero_le _) fun h' tk χ W₂ S₂ => ?_
  exact K.ok _ _ (lset isS σ.1 [], χ) .next _ _ h2 W₂ S₂ trivial
noncomputable def sSetAppD {Γ : Type} (μ : Γ → MC) (isS : Bool) (i : Nat) : Γ → Dn MS (Out × List V) := fun γ ρ σ => onSelf (μ γ) ρ ((getv ρ i).bind fun v => (jV v.int?).bind fun z => if (lget isS σ).length ≤ 1000 then .ok ((.next, ρ), lset isS σ (cut (lget isS σ) none (some σ.level) ++ [z])) else .stuck)
theorem cut_eq (vs : List Value) (k : Int) : List.take ((some k).elim vs.toArray.size (clipAt vs.toArray.size) - (none : Option Int).elim 0 (clipAt vs.toArray.size)) (List.drop ((none : Option Int).elim 0 (clipAt vs.toArray.size)) vs.toArray.toList) = cut vs none (some k) := by simp [cut]
theorem concat_lists {A : Around} {s : Shared} {a b : Addr} {xs ys : List Value} {Q : Value → Shared → Prop} {E : Value → Shared → Prop} (ha : s.heap.get? a = some { cls := .type "list", data := .seq xs.toArray }) (hb : s.heap.get? b = some { cls := .type "list", data := .seq ys.toArray }) (hz : xs.length + ys.length ≤ 4096)
    (h : Q (.ref s.heap.objs.size) { s with heap := s.heap.push { cls := .type "list", data := .seq (xs ++ ys).toArray } }) : wpAny (model prog w) A (binaryOp .Add (.ref a) (.ref b)) Q E s := by
  refine concat_meets ⟨_, ha, rfl⟩ ⟨_, hb, rfl⟩ noFill_list_add seq_list_add PySem.F.slot_list_add PySem.F.entry_list_add (PySem.F.args_list_add_2 _ _) (list_addW _ _ xs.toArray ys.toArray 0 0 none none #[] #[] (by simp only [List.size_toArray, sizeLine_eq]; exact Nat.le_trans hz (Nat.le_of_ble_eq_true rfl))) ⟨ha, hb, ?_⟩
  rw [List.append_toArray]; exact h
theorem app_ints {vs : List Value} {l : List Int} (hI : IntsAre vs l) (k z : Int) (t : Tok) : IntsAre (cut vs none (some k) ++ [.int z t]) (cut l none (some k) ++ [z]) := by
  refine IntsAre.append ?_ (.cons _ _ .nil)
  unfold cut; rw [hI.length]; exact (hI.drop _).take _
theorem sSetApp {Γ : Type} {γ : Γ} {μ : Γ → MC} {x2 x3 a2 a3 lp bp sp sp2 xp np pos pos' : Pos} {x : Str} (isS : Bool) (i : Nat) (hF : FOk f) (hi : f.vars[0]? = some jH) (C : ClsOk KK) (O : LAOk KK isS) (OI : IAOk KK .level) (hix : f.vars[i]? = some x)
    {nm : Str} (hnm : nm = lname isS) {lv : Str} (hlv : lv = IA.name .level)
    (hsw : ∀ env, swapsWith (.BinOp (.Subscript (.Attribute (.Name jH x2) nm a2) (.Slice none (some (.Attribute (.Name jH x3) lv a3)) none sp) sp2) .Add (.List [.Name x np] lp) bp) (some (.Attribute (.Name jH xp) nm pos')) pos.line env = pure false := by intro; rfl)
    (he1 : ∀ env, eval (.Attribute (.Name jH x2) nm a2) env = (do let o ← eval (.Name jH x2) env; standAt a2.atName; let r ← holding [o] (getAttr o nm true); letTemporaryGo (.Name jH x2) o r; pure r) := by intro; rfl)
    (he2 : ∀ env, eval (.Attribute (.Name jH x3) lv a3) env = (do let o ← eval (.Name jH x3) env; standAt a3.atName; let r ← holding [o] (getAttr o lv true); letTemporaryGo (.Name jH x3) o r; pure r) := by intro; rfl) (hC : f.isC = false := by rfl) :
    SndS prog w G (RMw w G (μ γ)) f n (.Assign [.Attribute (.Name jH xp) nm pos'] (.BinOp (.Subscript (.Attribute (.Name jH x2) nm a2) (.Slice none (some (.Attribute (.Name jH x3) lv a3)) none sp) sp2) .Add (.List [.Name x np] lp) bp) pos)
      (sSetAppD μ isS i γ) := SndG.mk fun L cl A outer s ρ σ Q E hA W K => by
  subst hnm hlv
  obtain ⟨h1, h2⟩ := onSelf_ok K.ns
  have K := K.to h2
  obtain ⟨v, hg, h3⟩ := getv_ne K.ns
  have K := K.to h3
  obtain ⟨z, hv, h4⟩ := ofOpt_ne K.ns
  have K := K.to h4
  obtain ⟨hzz, h5⟩ := ite_ne K.ns
  have K := K.to h5
  clear h3 h4 h5
  have X := WfK W
  obtain ⟨k, nn, I⟩ := MRep.instAt W.cal.rep
  obtain ⟨a, ha, hn⟩ := O.find
  obtain ⟨b, hb, hbn⟩ := OI.find
  obtain ⟨⟨vs, hL, hI⟩, _⟩ := MRep.list W.cal.rep isS
  have hvs : vs.length ≤ 1000 := hI.length ▸ hzz
  refine plainObj_wpAny_Assign_Attribute (wpAny_BinOp (Subscript_ (Attribute_Name_ (self_ hF hi W h1 ?_) (he1 _)))) (hsw _)
  refine get_value X I C.ga (findObj_own C.hd ha hn ((lookIn_dict _ _ _).trans (lhget _ _ isS σ k))) rfl ?_
  refine wpAny_Slice (wpAny_evalPart_none (wpAny_evalPart_some (Attribute_Name_ (self_ (s := ⟨_, _, _, _, _⟩) hF hi W h1 ?_) (he2 _))))
  refine get_value (s := ⟨_, _, _, _, _⟩) X I C.ga (findObj_own C.hd hb hbn ((lookIn_dict _ _ _).trans (IA.hget _ _ .level σ k))) rfl ?_
  refine wpAny_evalPart_none ?_
  have st1 := StaysIn.push s.heap { cls := .type "slice", data := .fields #[.none, .int (IA.get .level σ.1) (k (IA.tok .level)), .none] }
  refine tail_any (Heap.IsList.typeIs (s := ⟨_, _, _, _, _⟩) (hL.push _)) slot_list_getitem.lookup (wpAny_getItem_list_slice (s := ⟨_, _, _, _, _⟩) (hL.push _) (Heap.IsSliceOf.new ..) .none (.int _ _) .none (by simp) ?_ (by simp only [List.size_toArray, sizeLine_eq]; omega)) (ops := [.ref _, .ref _]) rfl
  rw [slicePick_plain, cut_eq]
  have hc := cut_length vs none (some (IA.get .level σ.1))
  have hII := app_ints hI (IA.get .level σ.1) z
  have hcl := cut_length (lget isS σ.1) none (some (IA.get .level σ.1))
  generalize s.heap.push _ = g1 at st1 ⊢
  have W1 := W.stays st1
  have S1 : Stp (RMw w G (μ γ)) [L] s.heap σ g1 σ := .of_stays st1
  have st2 := StaysIn.push g1 { cls := .type "list", data := .seq (cut vs none (some (IA.get .level σ.1))).toArray }
  have o2 := Heap.get?_push_size g1 (o := { cls := .type "list", data := .seq (cut vs none (some (IA.get .level σ.1))).toArray }) rfl
  generalize cut vs none (some (IA.get .level σ.1)) = xs at hc hII st2 o2 ⊢
  generalize g1.objs.size = a1 at o2 ⊢
  generalize g1.push _ = g2 at st2 o2 ⊢
  have W2 := W1.stays st2
  have S2 := S1.trans W1 (.of_stays st2)
  clear S1 st1 st2
  refine List_ (spliced_cons (local_ (s := ⟨_, _, _, _, _⟩) hF hix W2 hg fun vv r => spliced_nil (wpAny_newList ?_ (by rw [sizeLine_eq]; exact Nat.le_of_ble_eq_true rfl))))
  obtain ⟨t, rfl⟩ := r.int? hv
  have st3 := StaysIn.push g2 { cls := .type "list", data := .seq [Value.int z t].toArray }
  have o3 := Heap.get?_push_size g2 (o := { cls := .type "list", data := .seq [Value.int z t].toArray }) rfl
  have o2 := st3 _ _ o2
  generalize g2.objs.size = a2 at o3 ⊢
  generalize g2.push _ = g3 at st3 o2 o3 ⊢
  have W3 := W2.stays st3
  refine concat_lists (s := ⟨_, _, _, _, _⟩) o2 o3 (Nat.le_trans (Nat.add_le_add_right (Nat.le_trans hc hvs) 1) (Nat.le_of_ble_eq_true rfl)) ?_
  refine self_ (s := ⟨_, _, _, _, _⟩) hF hi (W3.stays (StaysIn.push _ _)) h1 ?_
  refine mSetL (s := ⟨g3, _, _, _, _⟩) isS C hC O W3 (hII t) ?_ fun h' tk χ W5 S5 => K.ok _ _ (lset isS σ.1 _, χ) .next _ _ rfl W5 ((S2.trans W2 (.of_stays st3)).trans W3 S5) trivial
  rw [List.length_append]
  exact Nat.le_trans (Nat.add_le_add_right (Nat.le_trans hcl hzz) 1) (Nat.le_of_ble_eq_true rfl)
theorem intsAre_set : ∀ {vs : List Value} {ns : List Int} (j : Nat) (z : Int) (t : Tok), IntsAre vs ns → IntsAre (vs.set j (.int z t)) (ns.set j z)
  | _, _, _, _, _, .nil => .nil
  | _, _, 0, z, t, .cons _ _ h => .cons _ _ h
  | _, _, j + 1, z, t, .cons a b h => .cons _ _ (intsAre_set j z t h)
theorem Wf.setList {L : Addr} {cl : Cx} {outer : List Env} {h h' : Heap} {ρ : List V} {σ : MS × MX} {vs : List Value} {l : List Int} (W : Wf G (RMw w G mc) (f.env L cl) f.vars outer h ρ σ)
    (hL : h'.IsList σ.2.lb vs.toArray) (hI : IntsAre vs l) (hz : l.length ≤ 2000) (hs : Heap.SameBut σ.2.lb h h') :
    Wf G (RMw w G mc) (f.env L cl) f.vars outer h' ρ ({ σ.1 with lengths := l }, σ.2) ∧ Stp (RMw w G mc) [L] h σ h' ({ σ.1 with lengths := l }, σ.2) := by
  have R := W.cal.rep
  obtain ⟨vs0, ⟨o0, ho0, hc0, n0, hd0⟩, hI0⟩ := R.lengths
  have ex : ∀ b o, h.get? b = some o → (∀ xs n, o.data ≠ .seq xs n) → h'.get? b = some o := fun b o e hd => (hs.2 b fun q => by rw [q, ho0] at e; cases e; exact hd _ _ hd0).trans e
  obtain ⟨m, hm⟩ := W.ns
  obtain ⟨mf, hmf⟩ := W.frame
  have nsk : ∀ {a m}, h.Ns a m → h'.Ns a m := fun {a m} ⟨o, es, ep, ho, hd, r⟩ => ⟨o, es, ep, ex _ _ ho (fun xs n z => by rw [hd] at z; cases z), hd, r⟩
  have kp : Keep ((RMw w G mc).foot σ) h h' := fun b o e hb => ⟨o.slots, (hs.2 b fun q => hb (by rw [q]; show σ.2.lb ∈ [mc.x, mc.dx, σ.2.la, σ.2.lb]; simp)).trans e, fun _ => rfl⟩
  have rk : ∀ {a : Value} {y : V}, Rep ((RMw w G mc).foot σ) h a y → Rep ((RMw w G mc).foot σ) h' a y := fun r => r.keep kp (.refl _ _) fun b hb => .inl hb
  have rep' : MRep w.params G.g mc ({ σ.1 with lengths := l }, σ.2) h' := by
    obtain ⟨k, nn, ed⟩ := R.dict
    obtain ⟨vs1, ⟨o1, ho1, hr1⟩, hI1⟩ := R.starts
    exact ⟨ex _ _ R.inst (fun xs n z => by cases z), ⟨k, nn, ex _ _ ed (fun xs n z => by cases z)⟩, ⟨vs1, ⟨o1, (hs.2 _ R.apart).trans ho1, hr1⟩, hI1⟩, ⟨vs, hL, hI⟩, R.nx, R.ndx, R.nla, R.nlb, R.apart, R.ztext, R.zpat, R.zs, hz⟩
  refine ⟨⟨W.above, ⟨fun b o e => (hs.2 b fun q => by rw [q, R.nlb] at e; cases e).trans (W.cal.base b o e), ?_, W.cal.nf, rep'⟩, W.top, ⟨L, mf, rfl, nsk hmf⟩, ⟨m, nsk hm⟩, W.apart, fun i y v' hi hv hne => ?_⟩, kp.mono fun b hb => .tail _ hb, .refl _ _⟩
  · refine ff_mono (fun b o e hd => ?_) W.cal.ff
    by_cases q : b = σ.2.lb
    · obtain ⟨oL, hoL, _, nL, hdL⟩ := hL
      exact ⟨oL, q ▸ hoL, fun vs z => by rw [hdL] at z; cases z⟩
    · exact ⟨o, (hs.2 b q).trans e, hd⟩
  · rcases W.var i y v' hi hv hne with ⟨hk', m', vv', hn', hm', r'⟩ | ⟨hk', c, vv', hc, hx', hI', r'⟩
    · exact .inl ⟨hk', m', vv', nsk hn', hm', rk r'⟩
    · obtain ⟨oc, hoc, hdc⟩ := hI'
      exact .inr ⟨hk', c, vv', hc, hx', ⟨oc, ex _ _ hoc (fun xs n z => by rw [hdc] at z; cases z), hdc⟩, rk r'⟩
noncomputable def sSetItemD {Γ : Type} (μ : Γ → MC) (F : Γ → Dn MS V) (i : Nat) : Γ → Dn MS (Out × List V) := fun γ ρ σ => ((F γ) ρ σ).bind fun p => onSelf (μ γ) ρ ((getv ρ i).bind fun v => (jV p.1.int?).bind fun z => (jV v.int?).bind fun j => if 0 ≤ j ∧ j < (p.2.lengths.length : Int) then .ok ((.next, ρ), { p.2 with lengths := p.2.lengths.set j.toNat z }) else .stuck)
theorem sSetItem {Γ : Type} {γ : Γ} {μ : Γ → MC} {ap xp np pos pos' : Pos} {x : Str} {e : Expr} {F : Γ → Dn MS V} (i : Nat) (hF : FOk f) (hi : f.vars[0]? = some jH) (C : ClsOk KK) (O : LAOk KK false) (hix : f.vars[i]? = some x) (hx : jW prog w G (RMw w G (μ γ)) f n e (F γ))
    {nm : Str} (hnm : nm = lname false)
    (hsw : ∀ env, swapsWith e (some (.Subscript (.Attribute (.Name jH xp) nm ap) (.Name x np) pos')) pos.line env = pure false := by intro; rfl)
    (he1 : ∀ env, eval (.Attribute (.Name jH xp) nm ap) env = (do let o ← eval (.Name jH xp) env; standAt ap.atName; let r ← holding [o] (getAttr o nm true); letTemporaryGo (.Name jH xp) o r; pure r) := by intro; rfl) :
    SndS prog w G (RMw w G (μ γ)) f n (.Assign [.Subscript (.Attribute (.Name jH xp) nm ap) (.Name x np) pos'] e pos)
      (sSetItemD μ F i γ) := SndG.mk fun L cl A outer s ρ σ Q E hA W K => by
  subst hnm
  refine wpAny_Assign_Subscript (hx.runS hA W W .refl K fun v σ₁ vv h₁ tk₁ e₁ W₁ _ S₁ r₁ K₁ => ?_) (hsw _)
  obtain ⟨h1, h2⟩ := onSelf_ok K₁.ns
  have K₁ := K₁.to h2
  obtain ⟨u, hg, h3⟩ := getv_ne K₁.ns
  have K₁ := K₁.to h3
  obtain ⟨z, hz, h4⟩ := ofOpt_ne K₁.ns
  have K₁ := K₁.to h4
  obtain ⟨j, hj, h5⟩ := ofOpt_ne K₁.ns
  have K₁ := K₁.to h5
  obtain ⟨hc, h6⟩ := ite_ne K₁.ns
  have K₁ := K₁.to h6
  have hc : 0 ≤ j ∧ j < (σ₁.1.lengths.length : Int) := hc
  clear h2 h3 h4 h5 h6 K
  have R := W₁.cal.rep
  obtain ⟨k, nn, I⟩ := MRep.instAt R
  obtain ⟨a, ha, hn⟩ := O.find
  obtain ⟨vs, hL, hI⟩ := R.lengths
  obtain ⟨tz, rfl⟩ := r₁.int? hz
  refine Attribute_Name_ (self_ (s := ⟨_, _, _, _, _⟩) hF hi W₁ h1 ?_) (he1 _)
  refine get_value (s := ⟨_, _, _, _, _⟩) (WfK W₁) I C.ga (findObj_own C.hd ha hn ((lookIn_dict _ _ _).trans (lhget _ _ false σ₁ k))) rfl ?_
  refine local_ (s := ⟨_, _, _, _, _⟩) hF hix W₁ hg fun uu ru => ?_
  obtain ⟨t, rfl⟩ := ru.int? hj
  have hlen := hI.length
  refine wpAny_setItem_list (s := ⟨_, _, _, _, _⟩) (l := σ₁.2.lb) hL hc.1 (by have := R.zl; omega) (by simp only [List.size_toArray]; omega) fun h' hL' hs => ?_
  rw [List.setIfInBounds_toArray] at hL'
  obtain ⟨W2, S2⟩ := Wf.setList W₁ hL' (intsAre_set j.toNat z tz hI) (by rw [List.length_set]; exact R.zl) hs
  exact K₁.ok _ _ ({ σ₁.1 with lengths := σ₁.1.lengths.set j.toNat z }, σ₁.2) .next _ _ rfl W2 (S₁.trans W₁ S2) trivial
end
section
variable {prog : Program} {w : World} {A : Around} {E : Value → Shared → Prop} {h : Heap} {g : Array GenState} {d : Drawn} {t : Nat} {os : OsState}
variable {nm q : Str} {C N x : Addr} {bs bm : List Value} {sn : List Str} {sub : List Value} {ab : Bool} {col : Option Bool} {dd : Option Addr} {k0 k1 k2 k3 k5 : Option Value} {B newId sa owner : String}
  {mN : Str → Option Value} {name : Str} {v : Value}
theorem first_store {Q : Unit → Shared → Prop} {vs : Array Value} {sl : Array (Option Value)} (SF : StoreFacts B bm sa owner)
    (hC : h.get? C = some (excClassObj nm q C N bs bm true sn sub ab col dd k0 k1 k2 k3 k5 newId)) (hn : h.Ns N mN) (hns : mN "__setattr__" = none) (hna : mN name = none)
    (hB : typeLookup (.type B) name = pure none) (hx : h.get? x = some ⟨.ref C, none, .fields vs, sl⟩)
    (hq : ∀ h' tk', h'.get? x = some ⟨.ref C, some h.objs.size, .fields vs, sl⟩ → h'.Ns1 h.objs.size (fun y => if y = name then some v else none) → (∀ b o, b ≠ x → h.get? b = some o → h'.get? b = some o) → Q () ⟨h', g, d, tk', os⟩) :
    wpAny (model prog w) A (setAttr (.ref x) name v) Q E ⟨h, g, d, t, os⟩ := by
  have f3 := SF.slot.bind (.ref x)
  have hpass := SF.passes (.ref x)
  have hc : (⟨.ref C, none, .fields vs, sl⟩ : Obj).cls = .ref C := rfl
  unfold setAttr callSpecial? specialOf
  repeat (any_goals (first | assumption | with_reducible refine wpAny_loadPart_at hx ?_ | (with_reducible refine wpAny_typeLookup_exc hC hn SF.mro SF.slot.lookup ?_; rw [hns]) | wp_step))
  refine codeAny_call_builtin SF.slot.plain SF.entry (wpAny_check_sa SF hC hx hc ?_)
  unfold Builtin.«object.__setattr__»
  repeat (first | rw [refuse_eq] | (rw [refuseLoop_ref, hpass]) | with_reducible refine wpAny_loadPart_at hx ?_ | with_reducible refine wpAny_mroOf_exc hC ?_ | (with_reducible refine wpAny_typeLookup_exc hC hn SF.mro hB ?_; rw [hna]) | wp_step)
  have hx₁ : (h.push { cls := .type "dict", data := .dict #[] }).get? x = some ⟨.ref C, none, .fields vs, sl⟩ := Heap.get?_push_of_some _ hx
  have hxs : x ≠ h.objs.size := Nat.ne_of_lt (Heap.lt_size hx)
  have hgd : ((h.push { cls := .type "dict", data := .dict #[] }).update x fun o => { cls := o.cls, dict := some h.objs.size, data := o.data, slots := o.slots }).get? h.objs.size
      = some { cls := .type "dict", data := .dict #[] } := (Heap.get?_update_ne _ _ _ _ hxs.symm).trans (Heap.get?_push_at rfl rfl)
  have hgx : ((h.push { cls := .type "dict", data := .dict #[] }).update x fun o => { cls := o.cls, dict := some h.objs.size, data := o.data, slots := o.slots }).get? x
      = some ⟨.ref C, some h.objs.size, .fields vs, sl⟩ := Heap.get?_update_self _ hx₁ rfl
  have keep : ∀ b o, b ≠ x → h.get? b = some o → ((h.push { cls := .type "dict", data := .dict #[] }).update x fun o => { cls := o.cls, dict := some h.objs.size, data := o.data, slots := o.slots }).get? b = some o :=
    fun b o hb e => (Heap.get?_update_ne _ _ _ _ hb).trans (Heap.get?_push_of_some _ e)
  generalize (h.push { cls := .type "dict", data := .dict #[] }).update x _ = h2 at hgd hgx keep ⊢
  have hpn : ∀ a tk, Obj.putName name a (.str name tk) v ({ cls := .type "dict", data := .dict #[] } : Obj) = dictOf [⟨a, .str name tk, v⟩] 1 := fun a tk => putName_dict name a _ v [] 0
  have hfin := fun a tk => (Heap.get?_update_self (Obj.putName name a (.str name tk) v) hgd (by rw [hpn]; rfl))
  refine wpAny_askSetting (wpAny_pure (wpAny_bind (wpAny_mkText (wpAny_bind (wpAny_loadPart hgd ?_)))))
  dsimp only
  rw [if_neg (by rw [aRefKeyMayBeTheName_at]; simp)]
  refine wpAny_updatePart hgd ?_
  refine wpAny_bind (wpAny_lookBehind (hfin _ _) (by rw [hpn]; exact pastItsLine_dict (by rw [sizeLine_eq]; exact Nat.le_of_ble_eq_true rfl)) ?_)
  refine wpAny_pure (wpAny_pure (wpAny_pure (hq _ _ ((Heap.get?_update_ne _ _ _ _ hxs).trans hgx) ?_ fun b o hb e => (Heap.get?_update_ne _ _ _ _ (Nat.ne_of_lt (Heap.lt_size e))).trans (keep b o hb e))))
  refine ⟨_, #[⟨_, .str name _, v⟩], 1, (hfin _ _).trans (by rw [hpn]), rfl, fun e he => ?_, ?_, fun y => ?_⟩
  · simp at he; subst he; exact ⟨_, _, rfl⟩
  · unfold UniqKeys; simp
  · unfold nsFind findBy
    by_cases e : y = name
    · subst e; simp [Value.isStr]
    · have : (name == y) = false := by simpa using fun z => e z.symm
      simp [Value.isStr, this, e]
end
section
variable {prog : Program} {w : World} {A : Around} {E : Value → Shared → Prop} {env : Env}
variable {nm q : Str} {C N : Addr} {bs bm : List Value} {hdct : Bool} {sn : List Str} {sub : List Value} {ab : Bool} {col : Option Bool} {dd : Option Addr} {k0 k1 k2 k3 k5 : Option Value} {newId : String}
theorem raise_made {s : Shared} {x : Sem Value} {Q : Flow → Shared → Prop} (hbase : bm.contains (.type "BaseException") = true) (hh : A.handled = none)
    (h : wpAny (model prog w) A x (fun v s₁ => ∃ e t d0 sl, v = .ref e ∧ s₁.heap.get? C = some (excClassObj nm q C N bs bm hdct sn sub ab col dd k0 k1 k2 k3 k5 newId) ∧
      s₁.heap.get? e = some ⟨.ref C, d0, .fields #[.ref t, .none, .none, .none, .bool false, .none], sl⟩ ∧ E (.ref e) s₁) E s) :
    wpAny (model prog w) A (raiseStmt env (some x) none) Q E s := by
  have hcB : (Value.ref C :: bm).contains (.type "BaseException") = true := by rw [List.contains_cons, hbase, Bool.or_true]
  unfold raiseStmt
  refine wpAny_bind (wpAny_mono h (fun v s₁ h₁ => ?_) fun _ _ x => x)
  obtain ⟨e, t, d0, sl, rfl, hC, he, hE⟩ := h₁
  obtain ⟨hp, g, d, tk, os⟩ := s₁
  repeat (first | with_reducible refine wpAny_loadPart_at he ?_ | with_reducible refine wpAny_loadPart_at hC ?_ | (with_reducible refine wpAny_isSubtype_exc hC ?_; rw [hcB]) | wp_step)
  exact wpAny_raiseNew_none hh hE
end
noncomputable abbrev sV : Str := Str.ofString "value"
noncomputable abbrev sTr : Str := Str.ofString "trace"
noncomputable abbrev sIh : Str := Str.ofString "is_in_handler"
noncomputable abbrev bmE : List Value := [.type "Exception", .type "BaseException", .type "object"]
inductive LuaCls (KK : Frag) : Prop
  | mk {nm q : Str} {bs : List Value} {sn : List Str} {sub : List Value} {ab : Bool} {col : Option Bool} {dd : Option Addr} {k0 k1 k2 k3 k5 : Option Value} (h : KK.lookup 31 = some (excClassObj nm q 31 30 bs bmE true sn sub ab col dd k0 k1 k2 k3 k5 "Exception.__new__")) : LuaCls KK
inductive LuaNs (KK : Frag) : Prop
  | mk {o : Obj} {es : Array DictEntry} {n : Nat} (h : KK.lookup 30 = some o) (hd : o.data = .dict es n) (hk : StrKeys es) (n1 : nsFind es "__init__" = some (.ref 28)) (n2 : nsFind es "__setattr__" = none) (n3 : nsFind es sV = none) (n4 : nsFind es sTr = none) (n5 : nsFind es sIh = none) : LuaNs KK
inductive LuaFn (KK : Frag) : Prop
  | mk {oc : Value} {od : Option Addr} {osl : Array (Option Value)} {nm cn : Str} {params : Arguments} {cs : Scope} {dV kV doc pm ccd ct : Value} {an : Option Addr} {p1 p2 p3 p4 p5 p6 p7 p8 p9 p10 p11 p12 : Pos} {k : Nat} (hf : KK.lookup 28 = some ⟨oc, od, .func (fnOf nm cn params [.Assign [.Attribute (.Name jH p1) sV p2] (.Name sV p3) p4, .Assign [.Attribute (.Name jH p5) sTr p6] (.List [] p7) p8, .Assign [.Attribute (.Name jH p9) sIh p10] (.Constant (.bool false) k p11) p12] cs dV kV doc pm an ccd ct), osl⟩)
    (hfc : oc = .type "function") (hcd : codeIn KK ccd cn = true) (hbind : ∀ a b, bindArgs (fnOf nm cn params [.Assign [.Attribute (.Name jH p1) sV p2] (.Name sV p3) p4, .Assign [.Attribute (.Name jH p5) sTr p6] (.List [] p7) p8, .Assign [.Attribute (.Name jH p9) sIh p10] (.Constant (.bool false) k p11) p12] cs dV kV doc pm an ccd ct) ⟨[a, b], []⟩ = pure [(jH, a), (sV, b)])
    (l1 : cs.names.lookup jH = some .local) (l2 : cs.names.lookup sV = some .local) (hkind : cs.kind = .function) (hco : cs.isCoroutine = false) (hgen : cs.isGenerator = false) (hcell : ∀ x ∈ cs.names, x.2 ≠ .cell) : LuaFn KK
structure LuaOk (KK : Frag) : Prop where
  cls : LuaCls KK
  ns : LuaNs KK
  fn : LuaFn KK
theorem lk_value : typeLookup (.type "Exception") sV = pure none := by rw [typeLookup_type, builtinLookup_eq_fast]; kernel_rfl
theorem lk_trace : typeLookup (.type "Exception") sTr = pure none := by rw [typeLookup_type, builtinLookup_eq_fast]; kernel_rfl
theorem lk_handler : typeLookup (.type "Exception") sIh = pure none := by rw [typeLookup_type, builtinLookup_eq_fast]; kernel_rfl
theorem ne_selfV : ¬ (jH = sV) := by decide +kernel
section
variable {prog : Program} {w : World} {A : Around} {E : Value → Shared → Prop} {KK : Frag}
theorem call_lua {s : Shared} {v : Value} {Q : Value → Shared → Prop} (O : LuaOk KK) (X : KK.In s.heap) (hlim : s.heap.NoLimit) (hd : A.depth + 4 < recursionLimit) (hh : A.handled = none)
    (hQ : ∀ h' e t d0 sl tk, (∀ b o, s.heap.get? b = some o → h'.get? b = some o) → s.heap.get? e = none → h'.get? e = some ⟨.ref 31, d0, .fields #[.ref t, .none, .none, .none, .bool false, .none], sl⟩ → Q (.ref e) { s with heap := h', toks := tk }) :
    wpAny (model prog w) A (call (.ref 31) [v]) Q E s := by
  obtain ⟨hC⟩ := O.cls
  obtain @⟨oN, es, nN, hN, hNd, hNk, n1, n2, n3, n4, n5⟩ := O.ns
  obtain @⟨oc, od, osl, nm0, cn, params, cs, dV, kV, doc, pm, ccd, ct, an, p1, p2, p3, p4, p5, p6, p7, p8, p9, p10, p11, p12, k, hf, hfc, hcd, hbind, l1, l2, hkind, hco, hgen, hcell⟩ := O.fn
  obtain ⟨hp, g, d, t, os⟩ := s
  have hns : hp.Ns 30 (nsFind es) := ⟨oN, es, nN, X _ _ hN, hNd, hNk, fun _ => rfl⟩
  refine wpAny_call_exc_init PySem.F.excBase_Exception (X _ _ hC) hns n1 (X _ _ hf) hfc (fun h' e hm => ?_) (by rw [sizeLine_eq]; exact Nat.le_of_ble_eq_true rfl)
  have X' : KK.In h' := fun b o z => hm.keeps _ _ (X b o z)
  have lim' := hlim.keeps hm.keeps
  obtain ⟨tt, he, htn, htt⟩ := hm.there
  refine wpAny_call (codeAny_call_def (fd := fnOf nm0 cn params _ cs dV kV doc pm an ccd ct) (body := _) (binds := [(jH, .ref e), (sV, v)]) ?_ (X' _ _ hf) rfl lim' (codeRec_of X' hcd) rfl (BindsTo.of_eq (hbind _ _)) hcell (fun x hx => ?_) (fun h₁ hns₁ hk₁ => ?_) hco hgen hkind)
  · show A.depth + _ < _
    have : (Code.builtin "type.__call__" ⟨[.ref 31, v], []⟩).weight = 1 := by rfl
    rw [this]; omega
  · rcases List.mem_cons.mp hx with rfl | hx
    · exact l1
    · cases List.mem_singleton.mp hx; exact l2
  · have eenv : callEnv (fnOf nm0 cn params [.Assign [.Attribute (.Name jH p1) sV p2] (.Name sV p3) p4, .Assign [.Attribute (.Name jH p5) sTr p6] (.List [] p7) p8, .Assign [.Attribute (.Name jH p9) sIh p10] (.Constant (.bool false) k p11) p12] cs dV kV doc pm an ccd ct) h'.objs.size 28 = envX cn cs h'.objs.size 28 ccd [] := rfl
    rw [eenv]
    have he1 := hk₁ _ _ he
    have heL : e ≠ h'.objs.size := Nat.ne_of_lt (Heap.lt_size he)
    have e31 : e ≠ 31 := fun z => by have := hm.new; rw [z] at this; rw [X _ _ hC] at this; cases this
    have old : ∀ b o, hp.get? b = some o → b ≠ e := fun b o z q => by rw [q, hm.new] at z; cases z
    have mS : (fun x => List.lookup x ([(jH, Value.ref e), (sV, v)] : List (Str × Value)).reverse) jH = some (.ref e) := by
      simp [List.lookup, show (jH == sV) = false from by simpa using ne_selfV]
    have mV : (fun x => List.lookup x ([(jH, Value.ref e), (sV, v)] : List (Str × Value)).reverse) sV = some v := by simp [List.lookup]
    refine wpAny_execs_cons (plainObj_wpAny_Assign_Attribute (wpAny_Name (wpAny_loadName_local hkind l2 hns₁ mV ?_) (by decide +kernel)))
    refine wpAny_Name (wpAny_loadName_local hkind l1 hns₁ mS ?_) (by decide +kernel)
    refine first_store PySem.F.store_Exception (hk₁ _ _ (hm.keeps _ _ (X _ _ hC))) ((hns.keeps hm.keeps).keeps hk₁) n2 n3 lk_value he1 fun h₂ tk₂ x2 d2 kp2 => ?_
    have kL : ∀ {hh : Heap}, (∀ b o, b ≠ e → h₁.get? b = some o → hh.get? b = some o) → hh.Ns h'.objs.size (fun x => List.lookup x ([(jH, Value.ref e), (sV, v)] : List (Str × Value)).reverse) := fun {hh} kp => by
      obtain ⟨o, es', ep, z, r⟩ := hns₁
      exact ⟨o, es', ep, kp _ _ heL.symm z, r⟩
    have h1none : h₁.get? h₁.objs.size = none := by
      cases q : h₁.get? h₁.objs.size with
      | none => rfl
      | some o => exact absurd (Heap.lt_size q) (Nat.lt_irrefl _)
    have de : h₁.objs.size ≠ e := fun z => by rw [z, he1] at h1none; cases h1none
    have dL : h'.objs.size ≠ h₁.objs.size := fun z => by
      obtain ⟨o, es', ep, y, r⟩ := hns₁
      rw [z, h1none] at y; cases y
    refine wpAny_execs_cons (plainObj_wpAny_Assign_Attribute (List_ (spliced_nil (wpAny_newList ?_ (by rw [sizeLine_eq]; exact Nat.le_of_ble_eq_true rfl)))))
    have st3 := StaysIn.push h₂ { cls := .type "list", data := .seq ([] : List Value).toArray }
    refine wpAny_Name (wpAny_loadName_local hkind l1 ((kL kp2).keeps st3) mS ?_) (by decide +kernel)
    have x3 := st3 _ _ x2
    have keep2 : ∀ b o, hp.get? b = some o → h₂.get? b = some o := fun b o z => kp2 b o (old b o z) (hk₁ _ _ (hm.keeps _ _ z))
    have I3 : (h₂.push { cls := .type "list", data := .seq ([] : List Value).toArray }).Inst e 31 (fun y => if y = sV then some v else none) :=
      ⟨_, x3, rfl, (fun c z => by cases z), .inr ⟨_, rfl, de, d2.at fun o z => st3 _ _ z⟩⟩
    refine store_attr (name := sTr) PySem.F.store_Exception (st3 _ _ (keep2 _ _ (X _ _ hC))) ((hns.keeps keep2).keeps st3) n2 n4 lk_trace e31 I3 fun h₄ tk₄ I4 kp4 sm4 => ?_
    obtain ⟨o4, x4, c4, dt4, sl4, dd4⟩ := sm4 _ x3
    have dd4' := dd4 _ rfl
    have kp4' : ∀ b o, b ≠ e → b ≠ h₁.objs.size → h₂.get? b = some o → h₄.get? b = some o := fun b o z1 z2 z => kp4 b o z1 (fun o0 dx q1 q2 => by rw [x3] at q1; cases q1; cases q2; exact z2) (st3 _ _ z)
    have nL4 : h₄.Ns h'.objs.size (fun x => List.lookup x ([(jH, Value.ref e), (sV, v)] : List (Str × Value)).reverse) := by
      obtain ⟨o, es', ep, z, r⟩ := kL kp2
      exact ⟨o, es', ep, kp4' _ _ heL.symm dL z, r⟩
    have keep4 : ∀ b o, hp.get? b = some o → h₄.get? b = some o := fun b o z => kp4' b o (old b o z) (fun q => by rw [q] at z; rw [hk₁ _ _ (hm.keeps _ _ z)] at h1none; cases h1none) (keep2 _ _ z)
    refine wpAny_execs_cons (plainObj_wpAny_Assign_Attribute (wpAny_Constant_bool ?_))
    refine wpAny_Name (wpAny_loadName_local hkind l1 nL4 mS ?_) (by decide +kernel)
    refine store_attr (name := sIh) PySem.F.store_Exception (keep4 _ _ (X _ _ hC)) (hns.keeps keep4) n2 n5 lk_handler e31 I4 fun h₅ tk₅ I5 kp5 sm5 => ?_
    obtain ⟨o5, x5, c5, dt5, sl5, dd5⟩ := sm5 _ x4
    refine wpAny_execs_nil ⟨rfl, ?_⟩
    obtain ⟨oc5, od5, odt5, osl5⟩ := o5
    simp only at c5 dt5 sl5
    rw [c4] at c5; rw [dt4] at dt5
    subst c5 dt5
    exact hQ h₅ e tt od5 osl5 tk₅ (fun b o z => kp5 b o (old b o z) (fun o0 dx q1 q2 => by rw [x4] at q1; cases q1; rw [dd4'] at q2; cases q2; exact fun q => by rw [q] at z; rw [hk₁ _ _ (hm.keeps _ _ z)] at h1none; cases h1none) (keep4 _ _ z)) hm.new x5
end
section
variable {prog : Program} {w : World} {KK : Frag} {G : Gd KK} {Sy : Type} {R : StRep Sy} {f : Fn} {n : Nat}
noncomputable def sRaiseD {Γ : Type} {S : Type} (F : Γ → Dn S V) : Γ → Dn S (Out × List V) := fun γ ρ σ => ((F γ) ρ σ).bind fun p => .err
@[simp] theorem sRaiseD_ap {Γ : Type} {S : Type} (F : Γ → Dn S V) (γ : Γ) (ρ : List V) (σ : S) : (sRaiseD F) γ ρ σ = ((F γ) ρ σ).bind fun p => .err := rfl
theorem sRaise {Γ : Type} {γ : Γ} {x : Str} {np cpos pos : Pos} {a : Expr} {F : Γ → Den R V} (O : LuaOk KK) (ha : jW prog w G R f n a (F γ)) (e : nsIn KK mainGlobals x = some (some (.ref 31))) (hkeep : keepIn KK (.ref 31) = true)
    (hk : f.cs.kind = .function) (hx : f.cs.names.lookup x = some .globalImplicit) (hd : (x == ("__debug__" : Str)) = false)
    (h1 : ∀ env, starEach [a] env = [(false, eval a env)] := by intro; rfl) :
    SndS prog w G R f n (.Raise (some (.Call (.Name x np) [a] [] cpos)) none pos) (sRaiseD F γ) := SndG.mk fun L cl A outer s ρ σ Q E hA W K => by
  simp only [sRaiseD_ap] at K
  rw [arm_exec_Raise]
  obtain @⟨nm, q, bs, sn, sub, ab, col, dd, k0, k1, k2, k3, k5, hC⟩ := O.cls
  refine wpAny_bind (wpAny_standAt (raise_made (C := 31) (nm := nm) (q := q) (N := 30) (bs := bs) (bm := bmE) (hdct := true) (sn := sn) (sub := sub) (ab := ab) (col := col) (dd := dd) (k0 := k0) (k1 := k1) (k2 := k2) (k3 := k3) (k5 := k5) (newId := "Exception.__new__") (by decide +kernel) hA.handled ?_))
  refine wpAny_bind (wpAny_Call_NameR (name_glob W e ?_ hk hx hd))
  refine callWith_K G.inK hkeep ?_ (h1 _) rfl
  have hst : backTo cpos (starEach [a] (f.env L cl)) = [(false, eval a (f.env L cl))] := by rw [h1]; rfl
  rw [hst]
  refine spliced_cons ?_
  refine ha.runS hA W W .refl K fun v σ₁ vv h₁ tk₁ e₁ W₁ _ S₁ r₁ K₁ => spliced_nil ⟨WfK W₁, ?_⟩
  refine call_lua (s := ⟨_, _, _, _, _⟩) O (WfK W₁) (G.top.nolimit.keeps W₁.cal.base) (by have := hA.depth; omega) hA.handled fun h' ea t d0 sl tk kp en eo => ?_
  refine wpAny_bind (wpAny_standAt (wpAny_pure ⟨ea, t, d0, sl, rfl, kp _ _ (WfK W₁ _ _ hC), eo, ?_⟩))
  refine K₁.er _ _ _ rfl ⟨⟨ea, hideAll h₁ (outer.filterMap (·.frame)), rfl, ⟨fun b o z => kp b o (of_hideAll _ z), ?_, ?_, .inl ⟨_, _, .ref t, eo, rfl, rfl, rfl, rfl⟩⟩, fun b o z => ?_, fun b o z hb hd => ?_⟩, ?_⟩
  · cases q : (hideAll h₁ (outer.filterMap (·.frame))).get? ea with
    | none => rfl
    | some o => have := of_hideAll _ q; rw [en] at this; cases this
  · exact (funFrames_hide W₁.cal.ff fun env he a hf => List.mem_filterMap.mpr ⟨env, he, hf⟩).of_keeps fun b o z _ => ⟨o, kp b o z, rfl⟩
  · exact hideAll_get _ (W₁.cal.base b o z) fun hm => by rw [(W₁.cal.ff.mem hm).1] at z; cases z
  · have hbL : b ≠ L := fun q => by
      obtain ⟨m, oL, es, ep, hoL, hdL, _⟩ := W.frame
      obtain ⟨vs, hd⟩ := hd
      rw [q] at z
      rw [z] at hoL; cases hoL; rw [hd] at hdL; cases hdL
    obtain ⟨sl', z', zf⟩ := S₁.keep b o z (fun q => (List.mem_cons.mp q).elim hbL hb)
    have z' : _ = some o := (zf hd) ▸ z'
    refine hideAll_get _ z' fun hm => ?_
    obtain ⟨_, o', ho', hnf⟩ := W₁.cal.ff.mem hm
    obtain ⟨vs, hd⟩ := hd
    rw [z'] at ho'; cases ho'
    exact hnf vs hd
  · exact S₁.keep.trans (X' := L :: R.foot σ₁) (fun b hb => by
      rcases List.mem_cons.mp hb with rfl | hb
      · exact .inl (.head _)
      · exact (S₁.grow b hb).imp (.tail _) id) (Keep.of_stays kp)
end
section
variable {prog : Program} {w : World} {KK : Frag} {G : Gd KK} {Sy : Type} {R : StRep Sy} {f : Fn} {n : Nat}
noncomputable def untup (n : Nat) (v : V) : Option (List V) := v.tup?.bind fun l => if l.length = n then some l else none
theorem untup_inv {n : Nat} {v : V} {l : List V} (e : untup n v = some l) : v.tup? = some l ∧ l.length = n := by
  obtain ⟨l', h, e⟩ := Option.bind_eq_some_iff.mp e
  by_cases hn : l'.length = n
  · cases (if_pos hn).symm.trans e; exact ⟨h, hn⟩
  · cases (if_neg hn).symm.trans e
theorem len_two {α : Type} {l : List α} (h : l.length = 2) : ∃ x y, l = [x, y] := by
  cases l with
  | nil => cases h
  | cons x l => exact ⟨x, (List.length_eq_one_iff.mp (Nat.succ.inj h)).imp fun y e => by rw [e]⟩
noncomputable def setAll : List V → List Nat → List V → List V
  | ρ, i :: is, x :: xs => setAll (ρ.set i x) is xs
  | ρ, _, _ => ρ
theorem store_all {L : Addr} {cl : Cx} {A : Around} {outer : List Env} {E : Value → Shared → Prop} (hF : FOk f) (hC : f.isC = false) (st : Str → Value → Sem Unit)
    (hst : ∀ (s : Shared) (x : Str) (v : Value) (Q : Unit → Shared → Prop), wpAny (model prog w) A (storeName (f.env L cl) x v) Q E s → wpAny (model prog w) A (st x v) Q E s) :
    ∀ (ts : List (Str × Nat)) (vs : List Value) (l : List V) (ρ : List V) (σ : R.T) (s : Shared) (Q : Unit → Shared → Prop), (∀ t ∈ ts, f.vars[t.2]? = some t.1) → (∀ t ∈ ts, f.cs.names.lookup t.1 = some .local) → ts.length = l.length → RepL (R.foot σ) s.heap vs l →
      Wf G R (f.env L cl) f.vars outer s.heap ρ σ →
      (∀ h' tk, Wf G R (f.env L cl) f.vars outer h' (setAll ρ (ts.map (·.2)) l) σ → Stp R [L] s.heap σ h' σ → Q () { s with heap := h', toks := tk }) →
      wpAny (model prog w) A (assignInOrder (ts.map fun t => st t.1) vs) Q E s := by
  intro ts
  induction ts with
  | nil =>
    intro vs l ρ σ s Q _ _ hl r W h
    cases List.length_eq_zero_iff.mp hl.symm
    cases r.nil?
    exact wpAny_assignInOrder_none (h s.heap s.toks W .refl)
  | cons t ts ih =>
    intro vs l ρ σ s Q hi hlo hl r W h
    obtain ⟨x, l, rfl⟩ := List.exists_cons_of_length_eq_add_one hl.symm
    obtain ⟨v, vs, rfl, rv, rs⟩ := r.cons?
    refine wpAny_assignInOrder_more (hst _ _ _ _ (store_ W hC hF.nd (hi t (.head _)) (hlo t (.head _)) hF.kind rv fun h₁ tk₁ W₁ S₁ => ?_))
    exact ih vs l (ρ.set t.2 x) σ ⟨h₁, s.gens, s.drawn, tk₁, s.os⟩ Q (fun t ht => hi t (.tail _ ht)) (fun t ht => hlo t (.tail _ ht)) (Nat.succ.inj hl) (S₁.repL W rs) W₁ fun h₂ tk₂ W₂ S₂ => h h₂ tk₂ W₂ (S₁.trans W₁ S₂)
theorem RepL.reverse {X : List Addr} {h : Heap} {vs : List Value} {l : List V} (r : RepL X h vs l) : RepL X h vs.reverse l.reverse :=
  r.ind (P := fun vs l => RepL X h vs.reverse l.reverse) .nil fun hv _ ih => by rw [List.reverse_cons, List.reverse_cons]; exact ih.append (.cons hv .nil)
theorem StaysIn.of_ext {h h' : Heap} (k : Heap.ExtBut h.objs.size h h') : h.StaysIn h' := fun b o e => k b o (Nat.ne_of_lt (Heap.lt_size e)) e
noncomputable def sSetTD {Γ : Type} {S : Type} (F : Γ → Dn S V) (i : Nat) (j : Nat) : Γ → Dn S (Out × List V) := fun γ ρ σ => ((F γ) ρ σ).bind fun p => (jV (untup 2 p.1)).bind fun l => .ok ((.next, setAll ρ [i, j] l), p.2)
theorem sSetT {Γ : Type} {γ : Γ} {x y : Str} {px py : Pos} {kd : Nat} {tpos pos : Pos} {e : Expr} {F : Γ → Den R V} (i j : Nat) (hF : FOk f) (h : jW prog w G R f n e (F γ)) (hi : f.vars[i]? = some x := by rfl) (hj : f.vars[j]? = some y := by rfl) (hk1 : f.cs.names.lookup x = some .local := by decide +kernel) (hk2 : f.cs.names.lookup y = some .local := by decide +kernel) (hC : f.isC = false := by rfl)
    (hsw : ∀ env, swapsWithSole [.Tuple [.Name x px, .Name y py] kd tpos] e pos.line env = pure false := by intro; rfl) (hw : ∀ env, swappedStores [.Tuple [.Name x px, .Name y py] kd tpos] e env = pure none := by intro; rfl) :
    SndS prog w G R f n (.Assign [.Tuple [.Name x px, .Name y py] kd tpos] e pos) (sSetTD F i j γ) := SndG.mk fun L cl A outer s ρ σ Q E hA W K => by
  refine Assign_Tuple (h.runS hA W W .refl K fun v σ₁ vv h₁ tk₁ e₁ W₁ _ S₁ r₁ K₁ => ?_) (hsw _) (hw _)
  obtain ⟨l, h2, e⟩ := ofOpt_ne K₁.ns
  have K₁ := K₁.to e
  clear e K W
  obtain ⟨h2, h3⟩ := untup_inv h2
  obtain ⟨ad, o, nn, vs, rfl, ho, hc, hd, _, hl, _⟩ := r₁.tup? h2
  have ht : h₁.IsTuple ad vs.toArray := ⟨o, ho, hc, nn, hd⟩
  refine wpAny_assign_Tuple (s := ⟨_, _, _, _, _⟩) hA.handled ht (h3.symm.trans (hl.length.symm.trans List.size_toArray.symm)) rfl fun h₂ ex => ?_
  have st := StaysIn.of_ext ex
  have Wd := W₁.stays st
  obtain ⟨x1, x2, rfl⟩ := len_two h3
  obtain ⟨v1, v2, rfl, q1, q2⟩ := (hl.keep (Keep.of_stays (X := R.foot σ₁) st) (Grow.refl (R.foot σ₁) _) fun b hb => .inl hb).two?
  have S₁ := S₁.trans W₁ (.of_stays st)
  clear hl ho hd ht h2 h3 r₁ ex st W₁ hc e₁
  refine wpAny_assignInOrder_more (assign_Name (store_ (s := ⟨_, _, _, _, _⟩) Wd hC hF.nd hi hk1 hF.kind q1 fun h₃ tk₃ W₃ S₃ => ?_))
  refine wpAny_assignInOrder_more (assign_Name (store_ (s := ⟨_, _, _, _, _⟩) W₃ hC hF.nd hj hk2 hF.kind (S₃.rep Wd q2) fun h₄ tk₄ W₄ S₄ => ?_))
  exact wpAny_assignInOrder_none (K₁.ok _ _ _ .next _ _ rfl W₄ ((S₁.trans Wd S₃).trans W₃ S₄) trivial)
noncomputable def sSetWD {Γ : Type} {S : Type} (F : Γ → Dn S V) (ts : List (Str × Nat)) : Γ → Dn S (Out × List V) := fun γ ρ σ => ((F γ) ρ σ).bind fun p => (jV (untup ts.length p.1)).bind fun l => .ok ((.next, setAll ρ (ts.reverse.map (·.2)) l.reverse), p.2)
theorem sSetW {Γ : Type} {γ : Γ} {elts : List Expr} {kd : Nat} {tpos pos : Pos} {e : Expr} {F : Γ → Den R V} (ts : List (Str × Nat)) (hF : FOk f) (h : jW prog w G R f n e (F γ)) (hi : ∀ t ∈ ts.reverse, f.vars[t.2]? = some t.1 := by decide +kernel) (hlo : ∀ t ∈ ts.reverse, f.cs.names.lookup t.1 = some .local := by decide +kernel) (hC : f.isC = false := by rfl)
    (hsw : ∀ env, swapsWithSole [.Tuple elts kd tpos] e pos.line env = pure false := by intro; rfl) (hw : ∀ L cl, swappedStores [.Tuple elts kd tpos] e (f.env L cl) = pure (some (ts.map (·.1))) := by intro _ _; rfl) :
    SndS prog w G R f n (.Assign [.Tuple elts kd tpos] e pos) (sSetWD F ts γ) := SndG.mk fun L cl A outer s ρ σ Q E hA W K => by
  refine Assign_Tuple_swapped (h.runS hA W W .refl K fun v σ₁ vv h₁ tk₁ e₁ W₁ _ S₁ r₁ K₁ => ?_) (hsw _) (hw _ _)
  obtain ⟨l, h2, e⟩ := ofOpt_ne K₁.ns
  have K₁ := K₁.to e
  clear e K W
  obtain ⟨h2, h3⟩ := untup_inv h2
  obtain ⟨ad, o, nn, vs, rfl, ho, hc, hd, _, hl, _⟩ := r₁.tup? h2
  have ht : h₁.IsTuple ad vs.toArray := ⟨o, ho, hc, nn, hd⟩
  have hsz : (ts.map (·.1)).length = vs.toArray.size := by rw [List.length_map, List.size_toArray, hl.length, h3]
  rw [hsz]
  refine wpAny_unpackItems_tuple (s := ⟨_, _, _, _, _⟩) hA.handled ht fun h₂ ex => ?_
  have st := StaysIn.of_ext ex
  have Wd := W₁.stays st
  have em : ((ts.map (·.1)).reverse.map fun n => bindName (f.env L cl) n) = ts.reverse.map fun t => (fun x v => bindName (f.env L cl) x v) t.1 := by
    rw [← List.map_reverse, List.map_map]; rfl
  rw [em]
  exact store_all hF hC (fun x v => bindName (f.env L cl) x v) (fun s x v Q q => bindName_ q) ts.reverse _ l.reverse ρ σ₁ ⟨_, _, _, _, _⟩ _ hi hlo (by rw [List.length_reverse, List.length_reverse, h3]) (hl.keep (Keep.of_stays (X := R.foot σ₁) st) (.refl _ _) fun b hb => .inl hb).reverse Wd fun h₃ tk₃ W₃ S₃ =>
    K₁.ok _ _ _ .next _ _ rfl W₃ ((S₁.trans W₁ (.of_stays st)).trans Wd S₃) trivial
end
inductive Iter (X : List Addr) (h : Heap) (it : Addr) : List V → Prop
  | lst {a i : Nat} {vs : List Value} {l : List V} (hi : h.IsListIter it a i) (hl : h.IsList a vs.toArray) (hx : a ∉ X) (hr : RepL X h vs l) : Iter X h it (l.drop i)
  | rng {x left : Int} (hi : IsRangeIter h it x left 1) : Iter X h it ((List.range left.toNat).map fun (j : Nat) => .int (x + j))
theorem Iter.fields {X : List Addr} {h : Heap} {it : Addr} {l : List V} (x : Iter X h it l) : ∃ o, h.get? it = some o ∧ (∃ vs, o.data = .fields vs) := by
  cases x with
  | lst hi => obtain ⟨o, ho, _, hd⟩ := hi; exact ⟨o, ho, _, hd⟩
  | rng hi => exact ⟨_, hi, _, rfl⟩
theorem Iter.keep {X X' Y : List Addr} {h h' : Heap} {it : Addr} {l : List V} (x : Iter X h it l) (k : Keep Y h h') (g : Grow X X' h) (hY : ∀ b ∈ Y, b ∈ X ∨ ∀ o xs n, h.get? b = some o → o.data ≠ .seq xs n) (hit : it ∉ Y) : Iter X' h' it l := by
  cases x with
  | lst hi hl hx hr =>
    obtain ⟨o, ho, hc, hd⟩ := hi
    obtain ⟨o', ho', hc', n, hd'⟩ := hl
    obtain ⟨sl, q, z⟩ := k _ _ ho hit
    obtain ⟨sl', q', z'⟩ := k _ _ ho' fun hy => (hY _ hy).elim hx fun z => z _ _ _ ho' hd'
    exact .lst ⟨_, q, hc, hd⟩ ⟨_, q', hc', n, hd'⟩ (fun z => (g _ z).elim hx fun w => by rw [w] at ho'; cases ho') (hr.keep k g hY)
  | rng hi =>
    obtain ⟨sl, q, z⟩ := k _ _ hi hit
    exact .rng (by have := z ⟨_, rfl⟩; rw [this] at q; exact q)
section
variable {prog : Program} {w : World} {KK : Frag} {G : Gd KK} {Sy : Type} {R : StRep Sy} {f : Fn} {n : Nat}
theorem Keep.of_ext {X : List Addr} {it : Addr} {h h' : Heap} (k : Heap.ExtBut it h h') (hx : it ∈ X) : Keep X h h' := fun b o e hb => ⟨o.slots, k b o (fun q => hb (q ▸ hx)) e, fun _ => rfl⟩
theorem Wf.ext {L : Addr} {cl : Cx} {outer : List Env} {h h' : Heap} {ρ : List V} {σ : R.T} {it : Addr} (W : Wf G R (f.env L cl) f.vars outer h ρ σ) (k : Heap.ExtBut it h h') (hf : ∃ o, h.get? it = some o ∧ (∃ vs, o.data = .fields vs)) (hx : it ∉ R.foot σ) (hg : G.g.get? it = none) : Wf G R (f.env L cl) f.vars outer h' ρ σ := by
  obtain ⟨oi, hoi, vs, hdi⟩ := hf
  have ex : ∀ b o, h.get? b = some o → (∀ vs, o.data ≠ .fields vs) → h'.get? b = some o := fun b o e hd => k b o (fun q => by rw [q, hoi] at e; cases e; exact hd _ hdi) e
  have kp : Keep [it] h h' := .of_ext k (.head _)
  have hY : ∀ b ∈ [it], b ∈ R.foot σ ∨ ∀ o xs n, h.get? b = some o → o.data ≠ .seq xs n := fun b hb => by
    rcases List.mem_singleton.mp hb with rfl
    exact .inr fun o xs n e z => by rw [hoi] at e; cases e; rw [hdi] at z; cases z
  have rk : ∀ {a : Value} {y : V}, Rep (R.foot σ) h a y → Rep (R.foot σ) h' a y := fun r => r.keep kp (.refl _ _) hY
  have nk : ∀ {a : Addr} {m : Str → Option Value}, h.Ns a m → h'.Ns a m := fun {a m} hn => by
    obtain ⟨o, es, ep, ho, hd, hn⟩ := hn
    exact ⟨o, es, ep, ex _ _ ho (fun vs z => by rw [hd] at z; cases z), hd, hn⟩
  obtain ⟨m, hm⟩ := W.frame
  obtain ⟨m', hm'⟩ := W.ns
  refine ⟨W.above, ⟨fun b o e => k b o (fun q => by rw [q, hg] at e; cases e) (W.cal.base b o e), ff_mono (fun b o e hd => ⟨o, ex b o e hd, hd⟩) W.cal.ff, W.cal.nf, R.stable W.cal.rep fun a o e ha => k a o (fun q => ha.elim (fun ha => hx (q ▸ ha)) fun ⟨_, xs, n, hd⟩ => by rw [q, hoi] at e; cases e; rw [hdi] at hd; cases hd) e⟩, W.top, ⟨L, m, rfl, nk hm⟩, ⟨m', nk hm'⟩, W.apart, fun i x v a b c => ?_⟩
  rcases W.var i x v a b c with ⟨hk, m, vv, hn, hm, r⟩ | ⟨hk, c, vv, hc, hx, ⟨o, ho, hd⟩, r⟩
  · exact .inl ⟨hk, m, vv, nk hn, hm, rk r⟩
  · exact .inr ⟨hk, c, vv, hc, hx, ⟨o, ex _ _ ho (fun vs z => by rw [hd] at z; cases z), hd⟩, rk r⟩
structure ItOk {KK : Frag} (G : Gd KK) {Sy : Type} (R : StRep Sy) (L : Addr) (Z : List Addr) (it : Addr) (h₀ : Heap) (σ₀ : R.T) (h : Heap) (σ : R.T) (l : List V) : Prop where
  iter : Iter (R.foot σ) h it l
  new : ∀ o, h₀.get? it = some o → it ∈ Z ++ R.foot σ₀
  foot : it ∉ R.foot σ
  base : G.g.get? it = none
  ne : it ≠ L
theorem ItOk.step {Z Z' : List Addr} {L : Addr} {cl : Cx} {outer : List Env} {it : Addr} {h₀ h h' : Heap} {ρ : List V} {σ σ' σ₀ : R.T} {l : List V} (x : ItOk G R L Z it h₀ σ₀ h σ l) (W : Wf G R (f.env L cl) f.vars outer h ρ σ) (S : Stp R Z' h σ h' σ') (hZ : ∀ z ∈ Z', z = L := by simp) : ItOk G R L Z it h₀ σ₀ h' σ' l := by
  obtain ⟨o, ho, _⟩ := x.iter.fields
  exact ⟨x.iter.keep S.keep S.grow (W.noSeq hZ) (fun z => (List.mem_append.mp z).elim (fun z => x.ne (hZ _ z)) x.foot), x.new, fun z => (S.grow _ z).elim x.foot (fun y => by rw [ho] at y; cases y), x.base, x.ne⟩
theorem ItOk.mono {Z : List Addr} {L it : Addr} {h₀ h : Heap} {σ σ₀ : R.T} {l : List V} (x : ItOk G R L [] it h₀ σ₀ h σ l) : ItOk G R L Z it h₀ σ₀ h σ l := ⟨x.iter, fun o e => List.mem_append_right _ (x.new o e), x.foot, x.base, x.ne⟩
theorem next_ {Z : List Addr} {L : Addr} {cl : Cx} {A : Around} {outer : List Env} {it : Addr} {h₀ : Heap} {s : Shared} {ρ : List V} {σ σ₀ : R.T} {l : List V} {Q : Option Value → Shared → Prop} {E : Value → Shared → Prop} (hh : A.handled = none) (x : ItOk G R L Z it h₀ σ₀ s.heap σ l)
    (W : Wf G R (f.env L cl) f.vars outer s.heap ρ σ) (S : Stp R Z h₀ σ₀ s.heap σ)
    (h0 : l = [] → ∀ h' tk, Heap.ExtBut it s.heap h' → Wf G R (f.env L cl) f.vars outer h' ρ σ → Stp R Z h₀ σ₀ h' σ → Q none { s with heap := h', toks := tk })
    (h1 : ∀ v l', l = v :: l' → ∀ vv h' tk, Heap.ExtBut it s.heap h' → Wf G R (f.env L cl) f.vars outer h' ρ σ → Stp R Z h₀ σ₀ h' σ → Rep (R.foot σ) h' vv v → ItOk G R L Z it h₀ σ₀ h' σ l' → Q (some vv) { s with heap := h', toks := tk }) :
    wpAny (model prog w) A (pyNext (.ref it)) Q E s := by
  have St : ∀ {h'}, Heap.ExtBut it s.heap h' → Wf G R (f.env L cl) f.vars outer h' ρ σ ∧ Stp R Z h₀ σ₀ h' σ := fun {h'} k => by
    refine ⟨W.ext k x.iter.fields x.foot x.base, ⟨fun b o e hb => ?_, S.grow⟩⟩
    obtain ⟨sl, q, z⟩ := S.keep b o e hb
    exact ⟨sl, k _ _ (fun q => hb (by rw [q] at e ⊢; exact x.new _ e)) q, z⟩
  obtain ⟨hi, a1, a2, a3, a4⟩ := x
  have hf := hi.fields
  cases hi with
  | lst hi hl hx hr =>
    rename_i a i vs l
    have hne : a ≠ it := fun e => by
      obtain ⟨o, ho, _, n, hd⟩ := hl
      obtain ⟨o', ho', hd'⟩ := hf
      obtain ⟨vs', hd'⟩ := hd'
      rw [e, ho'] at ho; cases ho; rw [hd'] at hd; cases hd
    have hlen := hr.length
    cases hd : l[i]? with
    | none =>
      refine wpAny_pyNext_list_end hh hi hl (by rw [List.getElem?_eq_none_iff] at hd; simp; omega) fun h' k => ?_
      exact h0 (List.drop_eq_nil_of_le (List.getElem?_eq_none_iff.mp hd)) h' s.toks k (St k).1 (St k).2
    | some v =>
      obtain ⟨vv, hv, rv⟩ := hr.get hd
      refine wpAny_pyNext_list_item hi hl (x := vv) (by simpa using hv) fun h' hi' hs => ?_
      have k := hs.extBut
      obtain ⟨W', S'⟩ := St k
      have e : l.drop i = v :: l.drop (i + 1) := by
        obtain ⟨h1, h2⟩ := List.getElem?_eq_some_iff.mp hd
        rw [List.drop_eq_getElem_cons h1, h2]
      have hY : ∀ b ∈ [it], b ∈ R.foot σ ∨ ∀ o xs n, s.heap.get? b = some o → o.data ≠ .seq xs n := fun b hb => by
        rcases List.mem_singleton.mp hb with rfl
        obtain ⟨o', ho', vs', hd'⟩ := hf
        exact .inr fun o xs n e z => by rw [ho'] at e; cases e; rw [hd'] at z; cases z
      have kp : Keep [it] s.heap h' := .of_ext k (.head _)
      refine h1 v _ e vv h' s.toks k W' S' (rv.keep kp (.refl _ _) hY) ⟨.lst hi' (hl.extBut k hne) hx (hr.keep kp (.refl _ _) hY), a1, a2, a3, a4⟩
  | rng hi =>
    rename_i x left
    by_cases hp : 0 < left
    · refine wpAny_pyNext_range_item hi hp fun h' hi' hs => ?_
      have k := hs.extBut
      obtain ⟨W', S'⟩ := St k
      have e : (List.range left.toNat).map (fun (j : Nat) => V.int (x + j)) = V.int x :: (List.range (left - 1).toNat).map (fun (j : Nat) => V.int (x + 1 + j)) := by
        obtain ⟨m, hm⟩ : ∃ m : Nat, left = m + 1 := ⟨(left - 1).toNat, by omega⟩
        subst hm
        have e1 : ((m : Int) + 1).toNat = m + 1 := by omega
        have e2 : ((m : Int) + 1 - 1).toNat = m := by omega
        rw [e1, e2, List.range_succ_eq_map, List.map_cons, List.map_map]
        congr 1
        · simp
        · apply List.map_congr_left; intro j _; simp only [Function.comp]; congr 1; push_cast; omega
      refine h1 _ _ e _ h' _ k W' S' (.int _ _) ⟨.rng hi', a1, a2, a3, a4⟩
    · refine wpAny_pyNext_range_end hh hi (by omega) fun h' k => ?_
      have : left.toNat = 0 := by omega
      exact h0 (by rw [this]; rfl) h' s.toks k (St k).1 (St k).2
end
section
variable {prog : Program} {w : World} {KK : Frag} {G : Gd KK} {Sy : Type} {R : StRep Sy} {f : Fn} {n : Nat}
noncomputable def SndI (prog : Program) (w : World) {KK : Frag} (G : Gd KK) {Sy : Type} (R : StRep Sy) (f : Fn) (n : Nat) (e : Expr) (F : Den R (List V)) : Prop :=
  ∀ (L : Addr) (cl : Cx) (A : Around) (outer : List Env) (s : Shared) (ρ : List V) (σ : R.T) (Q : Value → Shared → Prop) (E : Value → Shared → Prop),
    AOk A outer n → Wf G R (f.env L cl) f.vars outer s.heap ρ σ →
    (∀ l σ' it h' tk, F ρ σ.1 = .ok (l, σ'.1) → Wf G R (f.env L cl) f.vars outer h' ρ σ' → Stp R [] s.heap σ h' σ' → ItOk G R L [] it s.heap σ h' σ' l → Q (.ref it) { s with heap := h', toks := tk }) →
    (∀ e h' tk, F ρ σ.1 = .err → Err G R outer L [] s.heap σ e h' → E e { s with heap := h', toks := tk }) →
    F ρ σ.1 ≠ .stuck → wpAny (model prog w) A (eval e (f.env L cl)) (fun x s₁ => wpAny (model prog w) A (pyIter x) Q E s₁) E s
noncomputable def evList : V → Option (List V) := V.lst?
theorem ItOk.fresh {Z : List Addr} {L : Addr} {cl : Cx} {outer : List Env} {h₀ h : Heap} {o : Obj} {ρ : List V} {σ σ₀ : R.T} {l : List V} (W : Wf G R (f.env L cl) f.vars outer h ρ σ) (S : Stp R Z h₀ σ₀ h σ)
    (hi : Iter (R.foot σ) (h.push o) h.objs.size l) : ItOk G R L Z h.objs.size h₀ σ₀ (h.push o) σ l := by
  have hn : h.get? h.objs.size = none := by
    cases q : h.get? h.objs.size with
    | none => rfl
    | some o => exact absurd (Heap.lt_size q) (Nat.lt_irrefl _)
  refine ⟨hi, fun o q => ?_, fresh_notin (R.live W.cal.rep), ?_, fun e => Wf.F_ne W (e ▸ hn)⟩
  · by_cases hb : h.objs.size ∈ Z ++ R.foot σ₀
    · exact hb
    · obtain ⟨sl, q', _⟩ := S.keep _ _ q hb
      rw [hn] at q'; cases q'
  · cases q : G.g.get? h.objs.size with
    | none => rfl
    | some o => have := W.cal.base _ _ q; rw [hn] at this; cases this
noncomputable def iListD {Γ : Type} {S : Type} (F : Γ → Dn S V) : Γ → Dn S (List V) := fun γ ρ σ => ((F γ) ρ σ).bind fun p => (jV (evList p.1)).bind fun l => .ok (l, p.2)
theorem iList {Γ : Type} {γ : Γ} {e : Expr} {F : Γ → Den R V} (h : jW prog w G R f n e (F γ)) : SndI prog w G R f n e (iListD F γ) := by
  intro L cl A outer s ρ σ Q E hA W hQ hE hS
  refine h.run (rd' := fun _ _ (_ : Value) _ => True) (Q' := fun _ _ => True) hA W W .refl ⟨fun _ _ _ _ _ _ _ _ _ => trivial, hE, hS⟩ fun v σ₁ vv h₁ tk₁ e₁ W₁ _ S₁ r₁ K₁ => ?_
  obtain ⟨l, hl', _⟩ := ofOpt_ne K₁.ns
  obtain ⟨a, o, nn, vs, rfl, ho, hc, hd, hx, hl, hz⟩ := r₁.lst? hl'
  have hL : h₁.IsList a vs.toArray := ⟨o, ho, hc, nn, hd⟩
  refine wpAny_pyIter_list (s := ⟨_, _, _, _, _⟩) hL ?_
  have st := StaysIn.push h₁ { cls := .type "list_iterator", data := .fields #[.ref a, .int 0 0] }
  exact hQ l σ₁ _ _ tk₁ (by show ((F γ) ρ σ.1).bind _ = _; rw [e₁]; show (jV v.lst?).bind _ = _; rw [show v.lst? = some l from hl']; rfl) (W₁.stays st) (S₁.trans W₁ (.of_stays st)) (ItOk.fresh W₁ S₁ (.lst (i := 0) ⟨_, Heap.get?_push_size _ rfl, rfl, rfl⟩ (hL.push _) hx (hl.keep (Keep.of_stays (X := []) st) (.refl _ _) fun _ hb => nomatch hb)))
noncomputable def rangeL (a b : Int) : List V := (List.range (b - a).toNat).map fun (j : Nat) => .int (a + j)
noncomputable def evRange (l : List V) : Option (List V) := match l with
  | [x] => x.int?.bind fun b => if b.natAbs ≤ 5000 then some (rangeL 0 b) else none
  | [x, y] => x.int?.bind fun a => y.int?.bind fun b => if a.natAbs ≤ 5000 ∧ b.natAbs ≤ 5000 then some (rangeL a b) else none
  | _ => none
theorem evRange_inv {l r : List V} (h : evRange l = some r) : ∃ a b : Int, a.natAbs ≤ 5000 ∧ b.natAbs ≤ 5000 ∧ r = rangeL a b ∧ ((a = 0 ∧ l = [.int b]) ∨ l = [.int a, .int b]) := by
  cases l with
  | nil => cases h
  | cons x l =>
    cases l with
    | nil =>
      obtain ⟨b, hb, h⟩ := Option.bind_eq_some_iff.mp h
      split at h
      · rename_i hz; cases h; exact ⟨0, b, Nat.zero_le _, hz, rfl, .inl ⟨rfl, by rw [V.of_int hb]⟩⟩
      · cases h
    | cons y l =>
      cases l with
      | nil =>
        obtain ⟨a, ha, h⟩ := Option.bind_eq_some_iff.mp h
        obtain ⟨b, hb, h⟩ := Option.bind_eq_some_iff.mp h
        split at h
        · rename_i hz; cases h; exact ⟨a, b, hz.1, hz.2, rfl, .inr (by rw [V.of_int ha, V.of_int hb])⟩
        · cases h
      | cons z l => cases h
theorem call_range {A : Around} {s : Shared} {Q : Value → Shared → Prop} {E : Value → Shared → Prop} {X : List Addr} {vs : List Value} {l r : List V} (rl : RepL X s.heap vs l) (e : evRange l = some r)
    (hQ : ∀ (a b : Int) (t u v : Tok) (tk : Nat), a.natAbs ≤ 5000 → b.natAbs ≤ 5000 → r = rangeL a b → Q (.ref s.heap.objs.size) { s with heap := s.heap.push { cls := .type "range", data := .fields #[.int a t, .int b u, .int 1 v] }, toks := tk }) :
    wpAny (model prog w) A (call (.type "range") vs) Q E s := by
  obtain ⟨a, b, ha, hb, rfl, ⟨rfl, rfl⟩ | rfl⟩ := evRange_inv e
  · obtain ⟨v, rfl, rv⟩ := rl.one?
    obtain ⟨t, rfl⟩ := rv.int? rfl
    exact call_range_1 (hQ 0 b _ _ _ _ ha hb rfl)
  · obtain ⟨v, u, rfl, rv, ru⟩ := rl.two?
    obtain ⟨t, rfl⟩ := rv.int? rfl
    obtain ⟨u, rfl⟩ := ru.int? rfl
    exact call_range_2 (hQ a b _ _ _ _ ha hb rfl)
theorem small_of {a b : Int} (ha : a.natAbs ≤ 5000) (hb : b.natAbs ≤ 5000) : Builtin.Range.small a b 1 = true := small_one (by omega) (by omega) (by omega) (by omega)
theorem rangeSize_toNat (a b : Int) : (Builtin.Range.rangeSize a b 1).toNat = (b - a).toNat := by
  rw [rangeSize_one]; split <;> omega
noncomputable def iRangeD {Γ : Type} {S : Type} (Fs : Γ → Dn S (List V)) : Γ → Dn S (List V) := fun γ ρ σ => ((Fs γ) ρ σ).bind fun p => (jV (evRange p.1)).bind fun v => .ok (v, p.2)
theorem iRange {Γ : Type} {γ : Γ} {x : Str} {np pos : Pos} {a : Expr} {as : List Expr} {Fs : Γ → Den R (List V)} (hxr : x = "range") (e : nsIn KK mainGlobals "range" = some none) (hv : bootBuiltins "range" = some (.type "range")) (hl : SndL prog w G R f n pos (a :: as) (Fs γ))
    (hk : f.cs.kind = .function) (hx : f.cs.names.lookup x = some .globalImplicit) 
    (h1 : ∀ env, starEach (a :: as) env = (false, eval a env) :: starEach as env := by intro; rfl) (h2 : ∀ env, ((backTo pos (starEach (a :: as) env)).any fun x => x.1) = false := by intro; rfl) :
    SndI prog w G R f n (.Call (.Name x np) (a :: as) [] pos) (iRangeD Fs γ) := by
  subst hxr
  intro L cl A outer s ρ σ Q E hA W hQ hE hS
  refine wpAny_Call_NameR (name_blt W e hv (by decide +kernel) ?_ hk hx (by decide +kernel))
  refine PySem.callWith_type (h2 _) ?_
  have hst : backTo pos (starEach (a :: as) (f.env L cl)) = (false, eval a (f.env L cl)) :: backTo pos (starEach as (f.env L cl)) := by rw [h1]; rfl
  rw [hst]
  refine evalArgs_plain ?_
  rw [← hst]
  refine hl.run (rd' := fun _ _ (_ : Value) _ => True) (Q' := fun _ _ => True) hA W W .refl ⟨fun _ _ _ _ _ _ _ _ _ => trivial, hE, hS⟩ fun v σ₁ vv h₁ tk₁ e₁ W₁ _ S₁ r₁ K₁ => ?_
  obtain ⟨r, hr, _⟩ := ofOpt_ne K₁.ns
  refine call_range (s := ⟨_, _, _, _, _⟩) r₁ hr fun a b t u v' tk ha hb hrr => ?_
  subst hrr
  have st := StaysIn.push h₁ { cls := .type "range", data := .fields #[.int a t, .int b u, .int 1 v'] }
  have hI := IsRange.new h₁ a b 1 t u v'
  show wpAny _ A (pyIter (.ref h₁.objs.size)) Q E { s with heap := h₁.push _, toks := tk }
  generalize h₁.push { cls := .type "range", data := .fields #[.int a t, .int b u, .int 1 v'] } = h₂ at st hI ⊢
  refine wpAny_pyIter_range (s := ⟨_, _, _, _, _⟩) hI (small_of ha hb) ?_
  have W₂ := W₁.stays st
  have S₂ := S₁.trans W₁ (.of_stays st)
  have st2 := StaysIn.push h₂ { cls := .type "range_iterator", data := .fields #[rawInt a, rawInt (Builtin.Range.rangeSize a b 1), rawInt 1] }
  refine hQ (rangeL a b) σ₁ _ _ tk (by show ((Fs γ) ρ σ.1).bind _ = _; rw [e₁]; show (jV (evRange v)).bind _ = _; rw [hr]; rfl) (W₂.stays st2) (S₂.trans W₂ (.of_stays st2)) (ItOk.fresh W₂ S₂ ?_)
  have := Iter.rng (X := R.foot σ₁) (h := h₂.push { cls := .type "range_iterator", data := .fields #[rawInt a, rawInt (Builtin.Range.rangeSize a b 1), rawInt 1] }) (it := h₂.objs.size) (x := a) (left := Builtin.Range.rangeSize a b 1) (Heap.get?_push_size _ rfl)
  rw [rangeSize_toNat] at this
  exact this
noncomputable def forD {S : Type} (i : Nat) (B : List V → S → Res ((Out × List V) × S)) : List V → List V → S → Res ((Out × List V) × S)
  | [], ρ, σ => .ok ((.next, ρ), σ)
  | v :: l, ρ, σ => (B (ρ.set i v) σ).bind fun q => match q.1.1 with
      | .next => forD i B l q.1.2 q.2
      | .cont => forD i B l q.1.2 q.2
      | .brk => .ok ((.next, q.1.2), q.2)
      | .ret v => .ok ((.ret v, q.1.2), q.2)
noncomputable def sForD {Γ : Type} {S : Type} (Fi : Γ → Dn S (List V)) (B : Γ → Dn S (Out × List V)) (i : Nat) : Γ → Dn S (Out × List V) := fun γ ρ σ => ((Fi γ) ρ σ).bind fun p => forD i (B γ) p.1 ρ p.2
@[simp] theorem sForD_ap {Γ : Type} {S : Type} (Fi : Γ → Dn S (List V)) (B : Γ → Dn S (Out × List V)) (i : Nat) (γ : Γ) (ρ : List V) (σ : S) : (sForD Fi B i) γ ρ σ = ((Fi γ) ρ σ).bind fun p => forD i (B γ) p.1 ρ p.2 := rfl
theorem sFor {Γ : Type} {γ : Γ} {x : Str} {px pos : Pos} {iter : Expr} {b : List Stmt} {Fi : Γ → Den R (List V)} {B : Γ → Den R (Out × List V)} (i : Nat) (hF : FOk f) (hi : SndI prog w G R f n iter (Fi γ)) (hb : SndB prog w G R f n b (B γ))
    (hix : f.vars[i]? = some x := by rfl) (hk : f.cs.names.lookup x = some .local := by decide +kernel) (hC : f.isC = false := by rfl) (hs : ∀ env x, foldedSetIterable iter env x = pure x := by intro _ _; rfl) (ht : ∀ it v, letOwnedTupleGo (.Name x px) it v = pure () := by intro _ _; rfl) :
    SndS prog w G R f n (.For (.Name x px) iter b [] pos) (sForD Fi B i γ) := SndG.mk fun L cl A outer s ρ σ Q E hA W K => by
  simp only [sForD_ap] at K
  refine wpAny_For (hi L cl A outer s ρ σ _ E hA W (fun l σ₁ it h₁ tk₁ e₁ W₁ S₁ I₁ => ?_) (fun e h' tk q x => K.er e h' tk (by show ((Fi γ) ρ σ.1).bind _ = _; rw [q]; rfl) x.mono) (Res.ne_stuck_left K.ns)) (hs _)
  have K : KontS G R f L cl outer s.heap σ s (((Fi γ) ρ σ.1).bind fun p => forD i (B γ) p.1 ρ p.2) Q E := K
  rw [e₁] at K
  refine codeAny_forLoop (fun k s₂ => ∃ ρ₂ σ₂ l₂, k = l₂.length ∧ Wf G R (f.env L cl) f.vars outer s₂.heap ρ₂ σ₂ ∧ Stp R [L] s.heap σ s₂.heap σ₂ ∧ ItOk G R L [L] it s.heap σ s₂.heap σ₂ l₂ ∧ KontS G R f L cl outer s.heap σ s₂ (forD i (B γ) l₂ ρ₂ σ₂.1) Q E) (fun k s₂ hI => ?_) l.length ⟨ρ, σ₁, l, rfl, W₁, S₁.mono, I₁.mono, K.of h₁ tk₁ rfl⟩ (ht _)
  obtain ⟨ρ₂, σ₂, l₂, rfl, W₂, S₂, I₂, K₂⟩ := hI
  refine next_ hA.handled I₂ W₂ S₂ (fun e h₃ tk₃ _ W₃ S₃ => ?_) fun v l' e vv h₃ tk₃ _ W₃ S₃ r₃ I₃ => ?_
  · subst e
    exact wpAny_execs_nil (K₂.ok _ _ _ .next _ _ rfl W₃ S₃ trivial)
  · subst e
    refine assign_Name (store_ (s := ⟨_, _, _, _, _⟩) W₃ hC hF.nd hix hk hF.kind r₃ fun h₄ tk₄ W₄ S₄ => ?_)
    have I₄ := I₃.step W₃ S₄
    have K₂' : KontS G R f L cl outer s.heap σ ⟨h₄, s₂.gens, s₂.drawn, tk₄, s₂.os⟩ (forD i (B γ) (v :: l') ρ₂ σ₂.1) Q (notedBy (model prog w) A (f.env L cl) (cameBackBy (model prog w) A (f.env L cl) E)) := ⟨K₂.ok, fun e h' tk q x => Err.passes (s := ⟨h', _, _, tk, _⟩) hA W.top x fun h'' tk' x' => K₂.er e h'' tk' q x', K₂.ns⟩
    refine hb.runS (s := ⟨_, _, _, _, _⟩) hA W W₄ (S₃.trans W₃ S₄) K₂' fun o ρ₅ σ₅ fl h₅ tk₅ e₅ W₅ T₅ S₅ r₅ K₅ => ?_
    cases o <;> cases fl <;> first | exact r₅.elim | skip
    · exact ⟨l'.length, Nat.lt_succ_self _, ρ₅, σ₅, l', rfl, W₅, S₅, I₄.step W₄ T₅, K₂.of h₅ tk₅ (by show (B γ (ρ₂.set i v) σ₂.1).bind _ = _; rw [e₅]; rfl)⟩
    · exact ⟨l'.length, Nat.lt_succ_self _, ρ₅, σ₅, l', rfl, W₅, S₅, I₄.step W₄ T₅, K₂.of h₅ tk₅ (by show (B γ (ρ₂.set i v) σ₂.1).bind _ = _; rw [e₅]; rfl)⟩
    · exact K₅.ok _ _ _ .next _ _ rfl W₅ S₅ trivial
    · exact K₅.ok _ _ _ (.ret _) _ _ rfl W₅ S₅ r₅
end
section
variable {M : Model} {A : Around} {E : Value → Shared → Prop} {s : Shared} {env : Env}
noncomputable def compEnd (M : Model) (A : Around) (E : Value → Shared → Prop) (use : Option (Value → Sem Unit)) (Q : Value → Shared → Prop) (acc : Value) (cenv : Env) (r : Result) (s' : Shared) : Prop :=
  match r with
  | .ok _ => (match use with
    | none => ∃ m, s'.heap.Ns cenv.locals m ∧ ∀ h', Heap.SameBut cenv.locals s'.heap h' → Q acc { s' with heap := h' }
    | some u => wpAny M A (u acc) (fun _ s'' => ∃ m, s''.heap.Ns cenv.locals m ∧ ∀ h', Heap.SameBut cenv.locals s''.heap h' → Q .none { s'' with heap := h' }) E s')
  | .error x => ∃ m, s'.heap.Ns cenv.locals m ∧ ∀ h', Heap.SameBut cenv.locals s'.heap h' → wpAny M A (passOn "comprehension.variables-let-go" x cenv : Sem Value) (fun _ _ => False) E { s' with heap := h' }
theorem listComp_ {elt iter : Expr} {target : Expr} {ifs : List Expr} {scope : Scope} {pos : Pos} {cl : List (Str × Addr)} {use : Option (Value → Sem Unit)} {Q : Value → Shared → Prop} (P : Pos)
    (hs : ∀ x, foldedSetIterable iter env x = pure x) (hclos : closureFor scope env = pure cl) (hkind : scope.kind = .function) (hnames : ∀ x ∈ scope.names, x.2 = .local → scope.names.lookup x.1 = some .local)
    (h : wpAny M A (eval iter env) (fun x s₁ => wpAny M A (pyIter x) (fun it s₂ => wpAny M A (newList []) (fun acc s₃ =>
      wpAny M A (newFunctionEnv scope env.globals cl [] env.qual none .none (some env)) (fun cenv s₄ =>
        codeAny M A (.compStart (.ListComp elt [⟨target, iter, ifs, 0⟩] scope pos) 0 it acc { cenv with scope := relabel scope env }) (compEnd M A E use Q acc { cenv with scope := relabel scope env }) s₄) E s₃) E s₂) E s₁) E s) :
    wpAny M A (comprehension (.ListComp elt [⟨target, iter, ifs, 0⟩] scope pos) scope env P (newList []) false (eval iter env) use) Q E s := by
  have loc : ∀ (cenv : Env) (l : List (Str × NameKind)), (∀ x ∈ l, x ∈ scope.names) → ∀ x ∈ l, x.2 = .local → Env.kindOf { cenv with scope := relabel scope env } x.1 = some .local := fun cenv l hl x hx e => lookup_relabel_local (hnames x (hl x hx) e)
  have mf : ∀ x ∈ (scope.names.filter fun x => (x.2 == .local || x.2 == .cell) && x.1 != (".0" : Str)).reverse, x ∈ scope.names := fun x hx => (List.mem_filter.mp (List.mem_reverse.mp hx)).1
  have mf' : ∀ x ∈ (scope.names.filter fun x => (x.2 == .local || x.2 == .cell) && x.1 != (".0" : Str)).reverse.drop 1 ++ (scope.names.filter fun x => (x.2 == .local || x.2 == .cell) && x.1 != (".0" : Str)).reverse.take 1, x ∈ scope.names := fun x hx =>
    mf x ((List.mem_append.mp hx).elim List.mem_of_mem_drop List.mem_of_mem_take)
  unfold comprehension
  rw [hclos, show clausesOf (.ListComp elt [⟨target, iter, ifs, 0⟩] scope pos) = [⟨target, iter, ifs, 0⟩] from rfl]
  refine wpAny_bind (wpAny_mono h (fun x s₁ h₁ => ?_) fun _ _ e => e)
  refine wpAny_bind (wpAny_standAt (wpAny_bind (wpAny_of_eq (hs x) ?_)))
  refine wpAny_bind (wpAny_holding (wpAny_mono h₁ (fun it s₂ h₂ => wpAny_standIf ?_) fun _ _ e => e))
  refine wpAny_bind (wpAny_mono h₂ (fun acc s₃ h₃ => wpAny_bind (wpAny_pure ?_)) fun _ _ e => e)
  refine wpAny_bind (wpAny_mono h₃ (fun cenv s₄ h₄ => ?_) fun _ _ e => e)
  dsimp only
  refine wpAny_holding (wpAny_bind (wpAny_attempt (wpAny_holding (wpAny_run (codeAny_mono h₄ fun r s' hr => ?_)))))
  cases r with
  | ok f =>
    cases use with
    | none =>
      obtain ⟨m, hn, hr⟩ := hr
      exact wpAny_bind (wpAny_holding (wpAny_comp_letGo (cenv := { cenv with scope := relabel scope env }) hkind _ s' m (loc cenv _ mf) hn fun h' m' _ hs' => wpAny_pure (hr h' hs')))
    | some u =>
      refine wpAny_bind (wpAny_rule (wpAny_bind (wpAny_holding (wpAny_mono hr (fun _ s'' hr' => ?_) fun _ _ e => e))))
      obtain ⟨m, hn, hr'⟩ := hr'
      exact wpAny_bind (wpAny_comp_letGo (cenv := { cenv with scope := relabel scope env }) hkind _ s'' m (loc cenv _ mf') hn fun h' m' _ hs' => wpAny_pure (hr' h' hs'))
  | error x =>
    obtain ⟨m, hn, hr⟩ := hr
    exact wpAny_bind (wpAny_holding (wpAny_comp_letGo (cenv := { cenv with scope := relabel scope env }) hkind _ s' m (loc cenv _ mf) hn fun h' m' _ hs' => wpAny_mono (hr h' hs') (fun _ _ f => f.elim) fun _ _ y => y))
theorem passOn_ {α : Type} {what : String} {e L : Addr} {B : Heap} {a0 : Value} {l : List Env} {Q : α → Shared → Prop} (hf : env.frame = some L) (hb : B.StaysIn s.heap) (hl : s.heap.FunFrames B l) (ht : s.heap.TracedAtW B e (.ref 31) a0 (rawInt L))
    (hQ : ∀ h', B.StaysIn h' → h'.FunFrames B l → h'.TracedAtW B e (.ref 31) a0 (rawInt L) → s.heap.UpToSlots h' → E (.ref e) { s with heap := h' }) : wpAny M A (passOn what (.ref e) env) Q E s := by
  have h := cameBack_held (M := M) (A := A) (E := E) hf hb hl ht hQ
  obtain ⟨oe, vs, T, oT, ts, he, hcls, hd, h1, hnT, hTe, hT, hdT, h3⟩ := ht
  have hsz3 : 3 < ts.size := (Array.getElem?_eq_some_iff.mp h3).1
  unfold PySem.passOn
  refine wpAny_bind (wpAny_field he hd h1 ?_)
  rw [if_neg (show ¬ ((Value.ref T == Value.none) = true) from by simp)]
  have other : ∀ b, b ≠ T → (s.heap.update T (Obj.mapFields (·.setIfInBounds 3 ((some L : Option Addr).elim Value.none fun f => rawInt f)))).get? b = s.heap.get? b :=
    fun b hb => Heap.get?_update_other _ _ (Ne.symm hb)
  have noRecord : ∀ b o, s.heap.get? b = some o → (∀ vs, o.data ≠ .fields vs) → b ≠ T := fun b o hb hnf q => by
    rw [q, hT] at hb; injection hb with hb; subst hb; exact hnf ts hdT
  refine wpAny_bind ?_
  unfold setFlight
  refine wpAny_bind (wpAny_field he hd h1 ?_)
  rw [if_pos (show (Value.ref T != Value.none) = true from by simp), hf]
  refine wpAny_setField hT hdT hsz3 (wpAny_throw (hQ _ (fun b o hbo => (other b fun q => by rw [q, hnT] at hbo; cases hbo).trans (hb b o hbo))
    (hl.of_keeps fun b o hb hnf => ⟨o, (other b (noRecord b o hb hnf)).trans hb, rfl⟩) ?_ fun b o hb hnf => ⟨o.slots, (other b (noRecord b o hb hnf)).trans hb⟩))
  exact ⟨oe, vs, T, _, _, (other e (Ne.symm hTe)).trans he, hcls, hd, h1, hnT, hTe, Heap.get?_update_self _ hT (Obj.isFreed_of_fields (Obj.data_mapFields hdT _)), Obj.data_mapFields hdT _, by simp [hsz3]⟩
noncomputable def clos (cells : List (Str × Addr)) : List (Str × NameKind) → List (Str × Addr) → List (Str × Addr)
  | [], acc => acc
  | (n, k) :: r, acc => clos cells r (if k == .free then (n, (cells.lookup n).getD 0) :: acc else acc)
theorem closure_loop (f : Str × NameKind → List (Str × Addr) → Sem (ForInStep (List (Str × Addr))))
    (hf : ∀ name kind cs, f (name, kind) cs = if kind == .free then (do let c ← cellOf env name; pure (.yield ((name, c) :: cs))) else pure (.yield cs)) :
    ∀ (names : List (Str × NameKind)) (acc : List (Str × Addr)), (∀ x ∈ names, x.2 = .free → (env.cells.lookup x.1).isSome = true) → forIn names acc f = pure (clos env.cells names acc) := by
  intro names
  induction names with
  | nil => intro acc _; rw [List.forIn_nil]; rfl
  | cons p r ih =>
    obtain ⟨n, k⟩ := p
    intro acc h
    rw [List.forIn_cons, hf]
    show _ = pure (clos env.cells r (if k == .free then (n, (env.cells.lookup n).getD 0) :: acc else acc))
    by_cases hk : (k == .free) = true
    · obtain ⟨c, hc⟩ := Option.isSome_iff_exists.mp (h (n, k) (.head _) (by simpa using hk))
      have e : cellOf env n = pure c := by unfold cellOf; rw [show env.cells.lookup n = some c from hc]
      rw [if_pos hk, if_pos hk, e, show env.cells.lookup n = some c from hc, pure_bind, pure_bind]
      exact ih _ fun x hx => h x (.tail _ hx)
    · rw [if_neg hk, if_neg hk, pure_bind]
      exact ih _ fun x hx => h x (.tail _ hx)
theorem closureFor_ {scope : Scope} (h : ∀ x ∈ scope.names, x.2 = .free → (env.cells.lookup x.1).isSome = true) : closureFor scope env = pure (clos env.cells scope.names []) := by
  simp only [closureFor]
  rw [closure_loop _ (fun name kind cs => by by_cases hb : (kind == NameKind.free) = true <;> simp [hb]) _ _ h]
  rfl
theorem lookup_clos {cells : List (Str × Addr)} {y : Str} (names : List (Str × NameKind)) : ∀ acc : List (Str × Addr), (y, .free) ∈ names ∨ acc.lookup y = some ((cells.lookup y).getD 0) → (clos cells names acc).lookup y = some ((cells.lookup y).getD 0) := by
  induction names with
  | nil => exact fun acc h => h.elim (fun h => nomatch h) id
  | cons p r ih =>
    obtain ⟨n, k⟩ := p
    intro acc h
    by_cases e : (y, NameKind.free) = (n, k)
    · cases e; exact ih _ (.inr List.lookup_cons_self)
    · refine ih _ (h.imp (fun h => (List.mem_cons.mp h).resolve_left e) fun h => ?_)
      by_cases hk : (k == .free) = true
      · rw [if_pos hk, List.lookup_cons, beq_eq_false_iff_ne.mpr fun z => e (by rw [z, show k = .free by simpa using hk])]; exact h
      · rw [if_neg hk]; exact h
end
@[reducible] noncomputable def Rx {Sy : Type} (R : StRep Sy) (D : Addr) (P : Obj → Prop) : StRep Sy where
  X := R.X
  rep := fun σ h => R.rep σ h ∧ (∃ ob, h.get? D = some ob ∧ P ob) ∧ D ∉ R.foot σ
  foot := fun σ => D :: R.foot σ
  stable := fun {σ h h'} r k => ⟨R.stable r.1 fun a o e ha => k a o e (ha.imp (.tail _) id), (let ⟨ob, e, p⟩ := r.2.1; ⟨ob, k D ob e (.inl (.head _)), p⟩), r.2.2⟩
  live := fun {σ h} r a ha => by
    rcases List.mem_cons.mp ha with rfl | ha
    · obtain ⟨ob, e, _⟩ := r.2.1; rw [e]; intro z; cases z
    · exact R.live r.1 a ha
noncomputable def isL (vs : List Value) (ob : Obj) : Prop := ob.cls = .type "list" ∧ ∃ n, ob.data = .seq vs.toArray n
section
variable {X X' : List Addr} {h h' : Heap} {D : Addr}
theorem RMap.mono (s : ∀ a ∈ X', a ∈ X) : RMap X X' h h := fun a o xs n ho hd hx => ⟨fun z => hx (s _ z), o, ho, rfl, rfl⟩
theorem Rep.mono (s : ∀ a ∈ X', a ∈ X) {v : Value} {x : V} (r : Rep X h v x) : Rep X' h v x := r.map (.mono s)
theorem RepL.mono (s : ∀ a ∈ X', a ∈ X) {vs : List Value} {l : List V} (r : RepL X h vs l) : RepL X' h vs l := r.map (.mono s)
theorem RMap.more (k : h.StaysIn h') (hD : h.get? D = none) : RMap X (D :: X) h h' := fun a o xs n ho hd hx => ⟨fun z => (List.mem_cons.mp z).elim (fun e => (by rw [e, hD] at ho; cases ho)) hx, o, k _ _ ho, rfl, rfl⟩
theorem Rep.more (k : h.StaysIn h') (hD : h.get? D = Option.none) {v : Value} {x : V} (r : Rep X h v x) : Rep (D :: X) h' v x := r.map (.more k hD)
theorem RepL.more (k : h.StaysIn h') (hD : h.get? D = none) {vs : List Value} {l : List V} (r : RepL X h vs l) : RepL (D :: X) h' vs l := r.map (.more k hD)
end
section
variable {prog : Program} {w : World} {KK : Frag} {G : Gd KK} {Sy : Type} {R : StRep Sy} {f : Fn} {n : Nat}
variable {L : Addr} {cl : Cx} {outer : List Env} {h h' : Heap} {ρ : List V} {σ : R.T} {D : Addr} {P P' : Obj → Prop} {vars : List Str}
theorem VarAt.mono {env : Env} {X X' : List Addr} {x : Str} {v : V} (s : ∀ a ∈ X', a ∈ X) (y : VarAt env h X x v) : VarAt env h X' x v := by
  rcases y with ⟨hk, m, vv, hn, hm, r⟩ | ⟨hk, c, vv, hc, hx, hI, r⟩
  · exact .inl ⟨hk, m, vv, hn, hm, r.mono s⟩
  · exact .inr ⟨hk, c, vv, hc, fun z => hx (s _ z), hI, r.mono s⟩
theorem Wf.weak {env : Env} (W : Wf G (Rx R D P) env vars outer h ρ σ) : Wf G R env vars outer h ρ σ :=
  ⟨W.above, ⟨W.cal.base, W.cal.ff, fun e he b hb z => W.cal.nf e he b hb (.tail _ z), W.cal.rep.1⟩, W.top, W.nsF, W.ns, fun z => W.apart (.tail _ z), fun i x v a b c => (W.var i x v a b c).mono fun a ha => .tail _ ha⟩
theorem Wf.reP {env : Env} (W : Wf G (Rx R D P) env vars outer h ρ σ) (hp : ∃ ob, h.get? D = some ob ∧ P' ob) : Wf G (Rx R D P') env vars outer h ρ σ :=
  ⟨W.above, ⟨W.cal.base, W.cal.ff, W.cal.nf, W.cal.rep.1, hp, W.cal.rep.2.2⟩, W.top, W.nsF, W.ns, W.apart, W.var⟩
theorem Wf.aside {env : Env} (W : Wf G R env vars outer h ρ σ) (k : h.StaysIn h') (hD : h.get? D = none) (hD' : ∃ ob, h'.get? D = some ob ∧ P ob) : Wf G (Rx R D P) env vars outer h' ρ σ := by
  obtain ⟨L', m, e, hn⟩ := W.nsF
  obtain ⟨m', hm'⟩ := W.ns
  have fr : ∀ e ∈ outer, ∀ b, e.frame = some b → b ≠ D := fun e he b hb q => by
    have := (W.cal.ff.mem (List.mem_filterMap.mpr ⟨e, he, hb⟩)).2
    obtain ⟨o, ho, _⟩ := this
    rw [q, hD] at ho; cases ho
  have c := W.cal.stays k
  refine ⟨W.above, ⟨c.base, c.ff, fun e he b hb z => (List.mem_cons.mp z).elim (fr e he b hb) (W.cal.nf e he b hb), c.rep, hD', fun z => R.live W.cal.rep _ z hD⟩, W.top, ⟨L', m, e, hn.keeps k⟩, ⟨m', hm'.keeps k⟩, fun z => (List.mem_cons.mp z).elim (fun q => ?_) W.apart, fun i x v a b c => ?_⟩
  · obtain ⟨o, es, ep, ho, _⟩ := hm'
    rw [q, hD] at ho; cases ho
  · rcases W.var i x v a b c with ⟨hk, m, vv, hn, hm, r⟩ | ⟨hk, c, vv, hc, hx, hI, r⟩
    · exact .inl ⟨hk, m, vv, hn.keeps k, hm, r.more k hD⟩
    · refine .inr ⟨hk, c, vv, hc, fun z => (List.mem_cons.mp z).elim (fun q => ?_) hx, hI.keeps k, r.more k hD⟩
      obtain ⟨o, ho, _⟩ := hI
      rw [q, hD] at ho; cases ho
theorem Wf.other {b : Addr} (W : Wf G R (f.env L cl) vars outer h ρ σ) (k : Heap.ExtBut b h h') (hseq : b ∈ R.foot σ ∨ ∀ o xs n, h.get? b = some o → o.data ≠ .seq xs n) (hcell : ∀ o v, h.get? b = some o → o.data ≠ .cell v) (hL : b ≠ L) (hl : b ≠ (f.env L cl).locals)
    (hff : ∀ o, h.get? b = some o → (∀ vs, o.data ≠ .fields vs) → ∃ o', h'.get? b = some o' ∧ ∀ vs, o'.data ≠ .fields vs) (hg : G.g.get? b = none) (hrep : R.rep σ h') : Wf G R (f.env L cl) vars outer h' ρ σ := by
  have kp : Keep [b] h h' := .of_ext k (.head _)
  have rk : ∀ {a : Value} {y : V}, Rep (R.foot σ) h a y → Rep (R.foot σ) h' a y := fun r => r.keep kp (.refl _ _) fun c hc => by
    rcases List.mem_singleton.mp hc with rfl
    exact hseq
  have nk : ∀ {a : Addr} {m : Str → Option Value}, a ≠ b → h.Ns a m → h'.Ns a m := fun {a m} e hn => by
    obtain ⟨o, es, ep, ho, r⟩ := hn
    exact ⟨o, es, ep, k _ _ e ho, r⟩
  obtain ⟨m, hm⟩ := W.frame
  obtain ⟨m', hm'⟩ := W.ns
  refine ⟨W.above, ⟨fun c o e => k c o (fun q => by rw [q, hg] at e; cases e) (W.cal.base c o e), ff_mono (fun c o e hd => ?_) W.cal.ff, W.cal.nf, hrep⟩, W.top, ⟨L, m, rfl, nk (Ne.symm hL) hm⟩, ⟨m', nk (Ne.symm hl) hm'⟩, W.apart, fun i x v a b' c => ?_⟩
  · by_cases q : c = b
    · exact q ▸ hff o (q ▸ e) hd
    · exact ⟨o, k c o q e, hd⟩
  · rcases W.var i x v a b' c with ⟨hk, m, vv, hn, hm, r⟩ | ⟨hk, c, vv, hc, hx, ⟨o, ho, hd⟩, r⟩
    · exact .inl ⟨hk, m, vv, nk (Ne.symm hl) hn, hm, rk r⟩
    · exact .inr ⟨hk, c, vv, hc, hx, ⟨o, k _ _ (fun q => hcell _ _ (q ▸ ho) hd) ho, hd⟩, rk r⟩
theorem Snd.lift {α β : Type} {rd : List Addr → Heap → β → α → Prop} {t : Env → Sem β} {F : Den R α} (hs : Snd prog w G R f n rd t F)
    (hrd : ∀ X X' h vv v ρ σ σ', F ρ σ = .ok (v, σ') → rd X h vv v → rd X' h vv v) (hP : ∀ ob sl, P ob → P { ob with slots := sl }) : Snd prog w G (Rx R D P) f n rd t F := by
  intro L cl A outer s ρ σ Q E hA W hQ hE hS
  have hD : D ∉ R.foot σ := W.cal.rep.2.2
  refine hs L cl A outer s ρ σ Q E hA W.weak (fun v σ' vv h' tk e W' S r => ?_) (fun e h' tk q x => ?_) hS
  · obtain ⟨oD, hoD, hPD⟩ := W.cal.rep.2.1
    obtain ⟨sl, hD1, _⟩ := S.keep _ _ hoD hD
    have hD' : D ∉ R.foot σ' := fun z => (S.grow _ z).elim hD fun y => by rw [hoD] at y; cases y
    have k : Keep ((Rx R D P).foot σ) s.heap h' := S.keep.mono fun b hb => .tail _ hb
    have g : Grow ((Rx R D P).foot σ) ((Rx R D P).foot σ') s.heap := fun b hb => (List.mem_cons.mp hb).elim (fun e => .inl (e ▸ .head _)) fun hb => (S.grow b hb).imp (.tail _) id
    have c : Cal G (Rx R D P) outer h' σ' := ⟨W'.cal.base, W'.cal.ff, fun e he b hb z => (List.mem_cons.mp z).elim (fun q => W.cal.nf e he b hb (q ▸ .head _)) (W'.cal.nf e he b hb), W'.cal.rep, ⟨_, hD1, hP _ _ hPD⟩, hD'⟩
    exact hQ v σ' vv h' tk e (W.called c k g) ⟨k, g⟩ (hrd _ _ _ _ _ _ _ _ e r)
  · obtain ⟨⟨a, B, e1, e2, e3, e4⟩, e5⟩ := x
    exact hE e h' tk q ⟨⟨a, B, e1, e2, e3, fun b o eb hb => e4 b o eb fun z => hb (.tail _ z)⟩, e5.mono fun b hb => .tail _ hb⟩
end
noncomputable def compD {S : Type} (mk : V → List V) (T : List V → S → Res (Bool × S)) (E : List V → S → Res (V × S)) : List V → S → Res (List V × S)
  | [], σ => .ok ([], σ)
  | v :: l, σ => (T (mk v) σ).bind fun p => bif p.1 then (E (mk v) p.2).bind fun q => (compD mk T E l q.2).bind fun r => .ok (q.1 :: r.1, r.2) else compD mk T E l p.2
@[reducible] noncomputable def Fn.comp (f : Fn) (scope : Scope) (xs : List Str) : Fn := ⟨f.cn, relabel scope (f.env 0 {}), f.a, f.ccd, xs, true⟩
noncomputable def SndX (prog : Program) (w : World) {KK : Frag} (G : Gd KK) {Sy : Type} (R : StRep Sy) (f : Fn) (n : Nat) (ifs : List Expr) (F : Den R Bool) : Prop :=
  Snd prog w G R f n rdB (fun env => forIn ifs true fun c r => if r = true then do let ok ← isTrue c env (eval c env); pure (ForInStep.yield ok) else pure (ForInStep.yield r)) F
section
variable {prog : Program} {w : World} {KK : Frag} {G : Gd KK} {Sy : Type} {R : StRep Sy} {f : Fn} {n : Nat}
noncomputable def xNilD {Γ : Type} {S : Type} : Γ → Dn S Bool := fun γ ρ σ => .ok (true, σ)
theorem xNil {Γ : Type} {γ : Γ} : SndX prog w G R f n [] (xNilD γ) := Snd.mk fun L cl A outer s ρ σ Q E hA W K => wpAny_tests_nil (K.ok _ _ _ s.heap s.toks rfl W .refl rfl)
theorem xOne {c : Expr} {F : Den R Bool} (h : SndT prog w G R f n c F) : SndX prog w G R f n [c] F := fun L cl A outer s ρ σ Q E hA W hQ hE hS => wpAny_tests_one (h L cl A outer s ρ σ Q E hA W hQ hE hS)
structure ErrN {KK : Frag} (G : Gd KK) {Sy : Type} (R : StRep Sy) (l : List Env) (L : Addr) (Z : List Addr) (h : Heap) (σ : R.T) (e : Value) (h' : Heap) : Prop where
  at_ : ∃ a B a0, e = .ref a ∧ B.StaysIn h' ∧ B.get? a = none ∧ h'.FunFrames B l ∧ h'.TracedAtW B a (.ref 31) a0 (rawInt L) ∧ G.g.StaysIn B ∧ (∀ b o, h.get? b = some o → b ∉ R.foot σ → (∃ vs, o.data = .fields vs) → B.get? b = some o)
  keep : Keep (Z ++ R.foot σ) h h'
theorem Err.noted {Z : List Addr} {A : Around} {outer : List Env} {L : Addr} {cl : Cx} {s : Shared} {h : Heap} {σ : R.T} {e : Value} {E : Value → Shared → Prop} (hA : AOk A outer n) (T : ∃ e o, outer = e :: o ∧ e.frame = (f.env L cl).frame) (x : Err G R outer L Z h σ e s.heap)
    (hE : ∀ h', ErrN G R outer L Z h σ e h' → E e { s with heap := h' }) : notedBy (model prog w) A (f.env L cl) E e s := by
  obtain ⟨⟨a, B, rfl, hf, hg, hc⟩, hk⟩ := x
  obtain ⟨fe, o, rfl, he⟩ := T
  show wpAny _ _ (noteFrame (.ref a) (f.env L cl)) _ _ _
  rw [noteFrame_frame he.symm]
  refine Fly.noted hA.frames he hf fun h₁ a0 b1 f1 t1 u1 => hE h₁ ⟨⟨a, B, a0, rfl, b1, hf.2.1, f1, t1, hg, hc⟩, ?_⟩
  exact keep_on hk (fun b hb _ _ _ z => z hb) (fun b o ho hb hd => hc b o ho (fun z => hb (List.mem_append_right _ z)) hd) b1 u1
theorem Wf.comp {L C : Addr} {cl : Cx} {outer : List Env} {h : Heap} {ρ : List V} {σ : R.T} {scope : Scope} {x : Str} {cn : List (Str × Nat)} {m : Str → Option Value} {vv : Value} {v : V} {us : List V} (W : Wf G R (f.env L cl) f.vars outer h ρ σ)
    (hx : (f.comp scope (cn.map (·.1) ++ [x])).cs.names.lookup x = some .local) (hcn : ∀ p ∈ cn, f.vars[p.2]? = some p.1 ∧ f.cs.names.lookup p.1 = some .cell ∧ (f.comp scope (cn.map (·.1) ++ [x])).cs.names.lookup p.1 = some .cell ∧ (p.1, .free) ∈ scope.names)
    (hus : us = cn.map fun p => ρ.getD p.2 .undef)
    (hC : h.Ns C m) (hm : m x = some vv) (r : Rep (R.foot σ) h vv v) (hCf : C ∉ R.foot σ) (hCa : G.g.objs.size ≤ C) :
    Wf G R ((f.comp scope (cn.map (·.1) ++ [x])).env L ⟨clos cl.cells scope.names [], C⟩) (f.comp scope (cn.map (·.1) ++ [x])).vars outer h (us ++ [v]) σ := by
  refine ⟨hCa, W.cal, W.top, W.nsF, ⟨m, hC⟩, hCf, fun i y u hi hu hne => ?_⟩
  subst hus
  by_cases hlt : i < cn.length
  · rw [List.getElem?_append_left (by simpa using hlt), List.getElem?_map] at hi
    rw [List.getElem?_append_left (by simpa using hlt)] at hu
    obtain ⟨p, hp, rfl⟩ := Option.map_eq_some_iff.mp hi
    obtain ⟨h1, h2, h3, h4⟩ := hcn p (List.mem_of_getElem? hp)
    rw [List.getElem?_map, hp] at hu
    cases hu
    have hv : ρ[p.2]? = some (ρ.getD p.2 .undef) := by
      replace hne : ρ.getD p.2 .undef ≠ .undef := hne
      show ρ[p.2]? = some (ρ.getD p.2 .undef)
      rw [List.getD_eq_getElem?_getD] at hne ⊢
      cases e : ρ[p.2]? with
      | none => rw [e] at hne; exact absurd rfl hne
      | some z => rfl
    rcases W.var p.2 p.1 _ h1 hv hne with ⟨hk, _⟩ | ⟨hk, c, vv', hc, hx', hI, r'⟩
    · rw [show (f.env L cl).kindOf p.1 = f.cs.names.lookup p.1 from rfl, h2] at hk; cases hk
    · refine .inr ⟨h3, c, vv', ?_, hx', hI, r'⟩
      show (clos cl.cells scope.names []).lookup p.1 = some c
      rw [lookup_clos scope.names [] (.inl h4), show cl.cells.lookup p.1 = some c from hc]; rfl
  · rw [List.getElem?_append_right (by simpa using hlt)] at hi hu
    simp only [List.length_map] at hi hu
    have e0 : i - cn.length = 0 := by
      cases hd : i - cn.length with
      | zero => rfl
      | succ j => rw [hd] at hi; simp at hi
    rw [e0] at hi hu
    cases hi; cases hu
    exact .inl ⟨hx, m, vv, hC, hm, r⟩
structure Cp {KK : Frag} (G : Gd KK) {Sy : Type} (R : StRep Sy) (f : Fn) (L : Addr) (cl : Cx) (outer : List Env) (ρ : List V) (D C it : Addr) (h₀ : Heap) (σ₀ : R.T) (h : Heap) (σ : R.T) (l : List V) (vs : List Value) (vals : List V) : Prop where
  W : Wf G (Rx R D (isL vs)) (f.env L cl) f.vars outer h ρ σ
  S : Stp (Rx R D (isL vs)) [] h₀ σ₀ h σ
  I : ItOk G (Rx R D (isL vs)) L [] it h₀ σ₀ h σ l
  ns : ∃ m, h.Ns C m
  cf : C ∉ D :: R.foot σ
  r : RepL (D :: R.foot σ) h vs vals
section
variable {L C D it : Addr} {cl : Cx} {outer : List Env} {h h' h₀ : Heap} {ρ : List V} {σ₀ σ σ' : R.T} {l : List V} {vs : List Value} {vals : List V}
theorem Ns.ext {h h' : Heap} {a b : Addr} {m : Str → Option Value} (k : Heap.ExtBut b h h') (hn : h.Ns a m) (hab : a ≠ b) : h'.Ns a m := by
  obtain ⟨o, es, ep, ho, r⟩ := hn
  exact ⟨o, es, ep, k _ _ hab ho, r⟩
theorem Cp.step (x : Cp G R f L cl outer ρ D C it h₀ σ₀ h σ l vs vals) (c : Cal G (Rx R D (isL vs)) outer h' σ') (T : Stp (Rx R D (isL vs)) [] h σ h' σ') : Cp G R f L cl outer ρ D C it h₀ σ₀ h' σ' l vs vals := by
  obtain ⟨m, o, es, ep, ho, r⟩ := x.ns
  obtain ⟨sl, q, _⟩ := T.keep _ _ ho x.cf
  exact ⟨x.W.called c T.keep T.grow, x.S.trans x.W T, x.I.step x.W T, ⟨m, _, es, ep, q, r⟩, fun z => (T.grow _ z).elim x.cf (fun y => by rw [y] at ho; cases ho), x.r.keep T.keep T.grow fun b hb => .inl hb⟩
theorem Cp.own (x : Cp G R f L cl outer ρ D C it h₀ σ₀ h σ l vs vals) {m : Str → Option Value} (hs : Heap.SameBut C h h') (hn : h'.Ns C m) (hCL : C ≠ L) (hCl : C ≠ (f.env L cl).locals) (hg : G.g.get? C = none) (hnew : ∀ o, h₀.get? C = some o → C ∈ R.foot σ₀) : Cp G R f L cl outer ρ D C it h₀ σ₀ h' σ l vs vals := by
  obtain ⟨m0, o, es, ep, ho, hd, _⟩ := x.ns
  have k := hs.extBut
  have hq : ∀ o' xs n, h.get? C = some o' → o'.data ≠ .seq xs n := fun o' xs n e z => by rw [ho] at e; cases e; rw [hd] at z; cases z
  have hitC : it ≠ C := fun e => by obtain ⟨o', ho', vs', hd'⟩ := x.I.iter.fields; rw [e, ho] at ho'; cases ho'; rw [hd] at hd'; cases hd'
  have kp : Keep [C] h h' := .of_ext k (.head _)
  have hY : ∀ b ∈ [C], b ∈ D :: R.foot σ ∨ ∀ o' xs n, h.get? b = some o' → o'.data ≠ .seq xs n := fun b hb => by rcases List.mem_singleton.mp hb with rfl; exact .inr hq
  refine ⟨x.W.other k (.inr hq) (fun o' v e z => by rw [ho] at e; cases e; rw [hd] at z; cases z) hCL hCl (fun o' _ _ => ?_) hg ((Rx R D (isL vs)).stable x.W.cal.rep fun a o e ha => k a o (fun q => ha.elim (fun ha => x.cf (q ▸ ha)) fun ⟨_, xs, n, hd⟩ => hq o xs n (q ▸ e) hd) e), ⟨fun b o' e hb => ?_, x.S.grow⟩, ⟨x.I.iter.keep kp (.refl _ _) hY (fun z => hitC (List.mem_singleton.mp z)), x.I.new, x.I.foot, x.I.base, x.I.ne⟩, ⟨m, hn⟩, x.cf, x.r.keep kp (.refl _ _) hY⟩
  · obtain ⟨o1, es1, ep1, ho1, hd1, _⟩ := hn
    exact ⟨o1, ho1, fun vs z => by rw [hd1] at z; cases z⟩
  · obtain ⟨sl, q, z⟩ := x.S.keep b o' e hb
    exact ⟨sl, k _ _ (fun q => hb (.tail _ (q ▸ hnew o' (q ▸ e)))) q, z⟩
theorem Stp.fromX {P : Obj → Prop} (S : Stp (Rx R D P) [] h₀ σ₀ h σ) (hD : D ∉ R.foot σ) (hnew : ∀ o, h₀.get? D = some o → D ∈ R.foot σ₀) : Stp R [] h₀ σ₀ h σ := by
  refine ⟨fun b o e hb => S.keep b o e fun z => ?_, fun b hb => ?_⟩
  · rcases List.mem_cons.mp z with rfl | z
    · exact hb (hnew o e)
    · exact hb z
  · rcases S.grow b (.tail _ hb) with z | z
    · rcases List.mem_cons.mp z with rfl | z
      · exact absurd hb hD
      · exact .inl z
    · exact .inr z
theorem Cp.put (x : Cp G R f L cl outer ρ D C it h₀ σ₀ h σ l vs vals) {vv : Value} {v : V} (rv : Rep (D :: R.foot σ) h vv v) (hs : Heap.SameBut D h h') (hl : h'.IsList D (vs ++ [vv]).toArray) (hDL : D ≠ L) (hDl : D ≠ (f.env L cl).locals) (hg : G.g.get? D = none) (hCD : C ≠ D) :
    Cp G R f L cl outer ρ D C it h₀ σ₀ h' σ l (vs ++ [vv]) (vals ++ [v]) := by
  have k := hs.extBut
  obtain ⟨oD, hoD, hPD⟩ := x.W.cal.rep.2.1
  obtain ⟨hcD, nD, hdD⟩ := hPD
  obtain ⟨oE, hoE, hcE, nE, hdE⟩ := hl
  have kp : Keep [D] h h' := .of_ext k (.head _)
  have hY : ∀ b ∈ [D], b ∈ D :: R.foot σ ∨ ∀ o' xs n, h.get? b = some o' → o'.data ≠ .seq xs n := fun b hb => by rcases List.mem_singleton.mp hb with rfl; exact .inl (.head _)
  have hitD : it ≠ D := fun e => x.I.foot (e ▸ .head _)
  have W0 : Wf G (Rx R D (fun _ => True)) (f.env L cl) f.vars outer h ρ σ := x.W.reP ⟨oD, hoD, trivial⟩
  have W1 : Wf G (Rx R D (fun _ => True)) (f.env L cl) f.vars outer h' ρ σ := W0.other k (.inl (.head _)) (fun o' v e z => by rw [hoD] at e; cases e; rw [hdD] at z; cases z) hDL hDl (fun _ _ _ => ⟨oE, hoE, fun vs z => by rw [hdE] at z; cases z⟩) hg
    ⟨R.stable x.W.cal.rep.1 fun a o e ha => k a o (fun q => ha.elim (fun ha => x.W.cal.rep.2.2 (q ▸ ha)) fun ⟨hc, _⟩ => by rw [q, hoD] at e; cases e; rw [hcD] at hc; injection hc with hc; exact absurd hc (by decide)) e, ⟨oE, hoE, trivial⟩, x.W.cal.rep.2.2⟩
  obtain ⟨m, hm⟩ := x.ns
  refine ⟨W1.reP ⟨oE, hoE, hcE, nE, hdE⟩, ⟨fun b o' e hb => ?_, x.S.grow⟩, ⟨x.I.iter.keep kp (.refl _ _) hY (fun z => hitD (List.mem_singleton.mp z)), x.I.new, x.I.foot, x.I.base, x.I.ne⟩, ⟨m, Ns.ext k hm hCD⟩, x.cf, (x.r.keep kp (.refl _ _) hY).append (.cons (rv.keep kp (.refl _ _) hY) .nil)⟩
  obtain ⟨sl, q, z⟩ := x.S.keep b o' e hb
  exact ⟨sl, k _ _ (fun q => hb (q ▸ .head _)) q, z⟩
end
structure CF {KK : Frag} (G : Gd KK) (outer : List Env) (L C D loc : Addr) (X₀ X : List Addr) (h₀ h : Heap) : Prop where
  ns : ∃ m, h.Ns C m
  ne : C ≠ L
  nl : C ≠ loc
  nD : C ≠ D
  foot : C ∉ X
  base : G.g.get? C = none
  new : ∀ o, h₀.get? C = some o → C ∈ X₀
  above : G.g.objs.size ≤ C
  fr : ∀ e ∈ outer, e.frame ≠ some C
noncomputable def preD {S : Type} (vals : List V) (r : Res (List V × S)) : Res (List V × S) := r.bind fun r => .ok (vals ++ r.1, r.2)
theorem preD_nil {S : Type} (r : Res (List V × S)) : preD [] r = r := by cases r <;> rfl
theorem preD_push {S : Type} (vals : List V) (y : V) (r : Res (List V × S)) : preD vals (r.bind fun r => .ok (y :: r.1, r.2)) = preD (vals ++ [y]) r := by
  cases r with
  | ok r => show Res.ok (vals ++ (y :: r.1), r.2) = .ok (vals ++ [y] ++ r.1, r.2); rw [List.append_assoc]; rfl
  | err => rfl
  | stuck => rfl
structure CpG {KK : Frag} (G : Gd KK) {Sy : Type} (R : StRep Sy) (L loc D C : Addr) (h₀ : Heap) (σ₀ : R.T) : Prop where
  nC : ∀ o, h₀.get? C = some o → C ∈ R.foot σ₀
  bC : G.g.get? C = none
  nD : ∀ o, h₀.get? D = some o → D ∈ R.foot σ₀
  bD : G.g.get? D = none
  cL : C ≠ L
  cl : C ≠ loc
  dL : D ≠ L
  dl : D ≠ loc
  cD : C ≠ D
section
variable {fc : Fn} {clc : List (Str × Addr)} {L C D it : Addr} {cl : Cx} {A : Around} {outer : List Env} {h h' h₀ : Heap} {ρ : List V} {σ₀ σ σ' : R.T} {l : List V} {vs : List Value} {vals us : List V}
theorem Cp.er {s' : Shared} {e : Value} {EE : Value → Shared → Prop} (x : Cp G R f L cl outer ρ D C it h₀ σ₀ h σ l vs vals) (g : CpG G R L (f.env L cl).locals D C h₀ σ₀) (hA : AOk A outer n) (y : Err G (Rx R D (isL vs)) outer L [] h σ e s'.heap) (hE : ∀ h', ErrN G R outer L [] h₀ σ₀ e h' → (∃ m, h'.Ns C m) → EE e { s' with heap := h' }) :
    notedBy (model prog w) A (fc.env L ⟨clc, C⟩) EE e s' := by
  have S := x.S.fromX x.W.cal.rep.2.2 g.nD
  refine Err.noted (f := fc) (L := L) (cl := ⟨clc, C⟩) hA x.W.top y fun h' y => hE h' ?_ ?_
  · obtain ⟨⟨a, B, a0, b1, b2, b3, b4, b5, b6, b7⟩, hk⟩ := y
    refine ⟨⟨a, B, a0, b1, b2, b3, b4, b5, b6, fun b o e hb hd => ?_⟩, S.keep.trans (X' := D :: R.foot σ) (fun b hb => ?_) hk⟩
    · obtain ⟨sl, q, z⟩ := S.keep b o e hb
      rw [z hd] at q
      exact b7 b o q (fun w => (List.mem_cons.mp w).elim (fun q => hb (by rw [q] at e ⊢; exact g.nD _ e)) fun w => (S.grow _ w).elim hb fun y => by rw [y] at e; cases e) hd
    · rcases List.mem_cons.mp hb with rfl | hb
      · by_cases q : b ∈ R.foot σ₀
        · exact .inl q
        · cases e : h₀.get? b with
          | none => exact .inr rfl
          | some o => exact absurd (g.nD _ e) q
      · exact S.grow b hb
  · obtain ⟨m, o, es, ep, ho, r⟩ := x.ns
    obtain ⟨sl, q, _⟩ := y.keep _ _ ho x.cf
    exact ⟨m, _, es, ep, q, r⟩
inductive CpL {KK : Frag} (G : Gd KK) {Sy : Type} (R : StRep Sy) (f : Fn) (L : Addr) (cl : Cx) (outer : List Env) (ρ : List V) (D C it : Addr) (h₀ : Heap) (σ₀ : R.T) (us : List V) (Ft : Dn Sy Bool) (Fe : Dn Sy V) (s : Shared) (tot : Res (List V × Sy)) : Nat → Shared → Prop
  | mk {σ : R.T} {l : List V} {vs : List Value} {vals : List V} {h : Heap} {tk : Nat} (X : Cp G R f L cl outer ρ D C it h₀ σ₀ h σ l vs vals) (hz : vals.length + l.length ≤ 4096) (ht : tot = preD vals (compD (fun v => us ++ [v]) Ft Fe l σ.1)) : CpL G R f L cl outer ρ D C it h₀ σ₀ us Ft Fe s tot l.length { s with heap := h, toks := tk }
theorem comp_turns {elt iter : Expr} {x : Str} {px pos : Pos} {ifs : List Expr} {scope : Scope} {Ft : Dn Sy Bool} {Fe : Dn Sy V} {s₂ : Shared} {tot : Res (List V × Sy)} {RR : Result → Shared → Prop} {tk : Nat}
    (hT : ∀ D vs, SndX prog w G (Rx R D (isL vs)) fc n ifs Ft) (hE : ∀ D vs, jW prog w G (Rx R D (isL vs)) fc n elt Fe) (hc : fc.isC = true) (hk : fc.cs.kind = .function) (hx : fc.cs.names.lookup x = some .local)
    (hW : ∀ {h : Heap} {σ : R.T} {vs m vv v}, Wf G (Rx R D (isL vs)) (f.env L cl) f.vars outer h ρ σ → h.Ns C m → m x = some vv → Rep (D :: R.foot σ) h vv v → C ∉ D :: R.foot σ → Wf G (Rx R D (isL vs)) (fc.env L ⟨clc, C⟩) fc.vars outer h (us ++ [v]) σ)
    (hA : AOk A outer n) (g : CpG G R L (f.env L cl).locals D C h₀ σ₀) (hS : tot ≠ .stuck)
    (hok : ∀ h' tk (σ' : R.T) vals vs, tot = .ok (vals, σ'.1) → Wf G (Rx R D (isL vs)) (f.env L cl) f.vars outer h' ρ σ' → Stp R [] h₀ σ₀ h' σ' → RepL (D :: R.foot σ') h' vs vals → vals.length ≤ 4096 → (∃ m, h'.Ns C m) → C ∉ R.foot σ' → RR (.ok .next) { s₂ with heap := h', toks := tk })
    (herr : ∀ e h' tk, tot = .err → ErrN G R outer L [] h₀ σ₀ e h' → (∃ m, h'.Ns C m) → RR (.error e) { s₂ with heap := h', toks := tk })
    (X : Cp G R f L cl outer ρ D C it h₀ σ₀ h σ l [] []) (hz : l.length ≤ 4096) (ht : tot = compD (fun v => us ++ [v]) Ft Fe l σ.1) :
    codeAny (model prog w) A (.compLoop (.ListComp elt [⟨.Name x px, iter, ifs, 0⟩] scope pos) 0 (.ref it) (.ref D) (fc.env L ⟨clc, C⟩)) RR { s₂ with heap := h, toks := tk } := by
  refine codeAny_compLoop_tests (CpL G R f L cl outer ρ D C it h₀ σ₀ us Ft Fe s₂ tot) (fun k s hI => ?_) l.length (.mk X ((Nat.zero_add _).symm ▸ hz) (ht.trans (preD_nil _).symm)) (fun _ => rfl)
  clear X hz ht
  obtain @⟨σ, l, vs, vals, h, tk, X, hz, ht⟩ := hI
  have hst : compD (fun v => us ++ [v]) Ft Fe l σ.1 ≠ .stuck := fun e => hS (by rw [ht, e]; rfl)
  obtain ⟨oi, hoi, vsi, hdi⟩ := X.I.iter.fields
  have hCit : C ≠ it := fun e => by obtain ⟨_, o, es, ep, ho, hd, _⟩ := X.ns; rw [e, hoi] at ho; cases ho; rw [hdi] at hd; cases hd
  have hYi : ∀ b ∈ [it], b ∈ D :: R.foot σ ∨ ∀ o' xs n, h.get? b = some o' → o'.data ≠ .seq xs n := fun b hb => by rcases List.mem_singleton.mp hb with rfl; exact .inr fun o' xs n e z => by rw [hoi] at e; cases e; rw [hdi] at z; cases z
  clear hoi hdi
  have hns : ∀ {h'}, Heap.ExtBut it h h' → ∃ m, h'.Ns C m := fun k => let ⟨m, hm⟩ := X.ns; ⟨m, Ns.ext k hm hCit⟩
  refine next_ (s := ⟨h, _, _, _, _⟩) hA.handled X.I X.W X.S (fun e h' tk' k W' S' => ?_) (fun v l' e vv h' tk' k W' S' r' I' => ?_)
  · subst e
    exact hok h' tk' σ vals vs (by rw [ht]; show Res.ok (vals ++ [], σ.1) = _; rw [List.append_nil]) W' (S'.fromX X.W.cal.rep.2.2 g.nD) (X.r.keep (.of_ext k (.head _)) (.refl _ _) hYi) hz (hns k) fun z => X.cf (.tail _ z)
  · subst e
    have X2 : Cp G R f L cl outer ρ D C it h₀ σ₀ h' σ l' vs vals := ⟨W', S', I', hns k, X.cf, X.r.keep (.of_ext k (.head _)) (.refl _ _) hYi⟩
    clear hns hYi hCit k W' S' I' X
    have el : (fc.env L ⟨clc, C⟩).locals = C := by show (bif fc.isC then C else L) = C; rw [hc]; rfl
    obtain ⟨m, hm⟩ := X2.ns
    refine assign_Name (wpAny_storeName_local (s := ⟨h', _, _, _, _⟩) (env := fc.env L ⟨clc, C⟩) hx (el.symm ▸ hm) (fun h4 hn4 hs4 => ?_) (by show (fc.cs.kind == .class || (fc.cs.kind == .module && _)) = false; rw [hk]; rfl))
    rw [el] at hn4 hs4
    have hs4 : Heap.SameBut C h' h4 := hs4
    have X3 := X2.own hs4 hn4 g.cL g.cl g.bC g.nC
    obtain ⟨o, es, ep, ho, hd, _⟩ := hm
    have rv : Rep (D :: R.foot σ) h4 vv v := r'.keep (.of_ext hs4.extBut (.head _)) (.refl _ _) fun b hb => by
      rcases List.mem_singleton.mp hb with rfl
      exact .inr fun o' xs n e z => by rw [ho] at e; cases e; rw [hd] at z; cases z
    have Wc := hW X3.W hn4 (if_pos rfl) rv X3.cf
    clear ho hd rv X2 r' hs4 hn4
    have et : compD (fun v => us ++ [v]) Ft Fe (v :: l') σ.1 = (Ft (us ++ [v]) σ.1).bind fun p => bif p.1 then (Fe (us ++ [v]) p.2).bind fun q => (compD (fun v => us ++ [v]) Ft Fe l' q.2).bind fun r => .ok (q.1 :: r.1, r.2) else compD (fun v => us ++ [v]) Ft Fe l' p.2 := rfl
    rw [et] at ht hst
    refine hT D vs L ⟨clc, C⟩ A outer ⟨h4, _, _, _, _⟩ (us ++ [v]) σ _ _ hA Wc (fun b σ5 bb h5 tk5 e5 W5 T5 rb5 => ?_) (fun e h5 tk5 q y => ?_) (fun e => hst (by rw [e]; rfl))
    · cases rb5
      have X4 := X3.step W5.cal T5
      rw [e5] at ht
      cases b with
      | false =>
        rw [if_neg (by decide)]
        exact ⟨l'.length, Nat.lt_succ_self _, .mk X4 (Nat.le_trans (Nat.add_le_add_left (Nat.le_succ _) _) hz) ht⟩
      | true =>
        rw [if_pos rfl]
        have ht : tot = preD vals ((Fe (us ++ [v]) σ5.1).bind fun q => (compD (fun v => us ++ [v]) Ft Fe l' q.2).bind fun r => .ok (q.1 :: r.1, r.2)) := ht
        refine hE D vs L ⟨clc, C⟩ A outer ⟨h5, _, _, _, _⟩ (us ++ [v]) σ5 _ _ hA W5 (fun y σ6 yy h6 tk6 e6 W6 T6 r6 => ?_) (fun e h6 tk6 q y => ?_) (fun e => hS (by rw [ht, e]; rfl))
        · have X5 := X4.step W6.cal T6
          rw [e6] at ht
          have hz1 : vals.length + 1 + l'.length ≤ 4096 := Nat.add_right_comm vals.length 1 l'.length ▸ hz
          refine wpAny_list_append (s := ⟨h6, _, _, _, _⟩) X5.W.cal.rep.2.1 (fun h7 hl7 hs7 => ?_) (by rw [List.size_toArray, X5.r.length, sizeLine_eq]; omega)
          exact ⟨l'.length, Nat.lt_succ_self _, .mk (X5.put r6 hs7 (List.push_toArray vs _ ▸ hl7) g.dL g.dl g.bD g.cD) (by rw [List.length_append]; exact hz1) (ht.trans (preD_push _ _ _))⟩
        · exact X4.er (s' := ⟨h6, _, _, _, _⟩) g hA y fun h' y' => herr e h' tk6 (by rw [ht, q]; rfl) y'
    · exact X3.er (s' := ⟨h5, _, _, _, _⟩) g hA y fun h' y' => herr e h' tk5 (by rw [ht, q]; rfl) y'
end
theorem comp_loop {elt iter : Expr} {x : Str} {px pos : Pos} {ifs : List Expr} {scope : Scope} {cn : List (Str × Nat)} {us : List V} {Ft : Den R Bool} {Fe : Den R V} {L : Addr} {cl : Cx} {A : Around} {outer : List Env} {s₂ : Shared} {h₀ : Heap} {ρ : List V} {σ₀ σ₂ : R.T} {l : List V} {it : Addr} {RR : Value → Env → Result → Shared → Prop}
    (hT : ∀ D vs, SndX prog w G (Rx R D (isL vs)) (f.comp scope (cn.map (·.1) ++ [x])) n ifs Ft) (hE : ∀ D vs, jW prog w G (Rx R D (isL vs)) (f.comp scope (cn.map (·.1) ++ [x])) n elt Fe)
    (hcell : ∀ y ∈ scope.names, y.2 ≠ .cell) (hkind : scope.kind = .function)
    (hx : (f.comp scope (cn.map (·.1) ++ [x])).cs.names.lookup x = some .local) (hcn : ∀ p ∈ cn, f.vars[p.2]? = some p.1 ∧ f.cs.names.lookup p.1 = some .cell ∧ (f.comp scope (cn.map (·.1) ++ [x])).cs.names.lookup p.1 = some .cell ∧ (p.1, .free) ∈ scope.names)
    (hus : us = cn.map fun p => ρ.getD p.2 .undef) (hz : l.length ≤ 4096)
    (hA : AOk A outer n) (W : Wf G R (f.env L cl) f.vars outer s₂.heap ρ σ₂) (S : Stp R [] h₀ σ₀ s₂.heap σ₂) (I : ItOk G R L [] it h₀ σ₀ s₂.heap σ₂ l)
    (hS : compD (fun v => us ++ [v]) Ft Fe l σ₂.1 ≠ .stuck)
    (hok : ∀ D cenv h' tk σ' vals vs, compD (fun v => us ++ [v]) Ft Fe l σ₂.1 = .ok (vals, σ'.1) → Wf G (Rx R D (isL vs)) (f.env L cl) f.vars outer h' ρ σ' → Stp R [] h₀ σ₀ h' σ' → RepL (D :: R.foot σ') h' vs vals → vals.length ≤ 4096 → D ∉ R.foot σ' →
      CF G outer L cenv.locals D (f.env L cl).locals (R.foot σ₀) (R.foot σ') h₀ h' → RR (.ref D) cenv (.ok .next) { s₂ with heap := h', toks := tk })
    (herr : ∀ D cenv e h' tk, compD (fun v => us ++ [v]) Ft Fe l σ₂.1 = .err → ErrN G R outer L [] h₀ σ₀ e h' → cenv.frame = some L → (∃ m, h'.Ns cenv.locals m) → (∀ o, h₀.get? cenv.locals = some o → cenv.locals ∈ R.foot σ₀) → G.g.get? cenv.locals = none → (∀ e ∈ outer, e.frame ≠ some cenv.locals) →
      RR (.ref D) cenv (.error e) { s₂ with heap := h', toks := tk }) :
    wpAny (model prog w) A (newList []) (fun acc s₃ => wpAny (model prog w) A (newFunctionEnv scope (f.env L cl).globals (clos cl.cells scope.names []) [] (f.env L cl).qual none .none (some (f.env L cl))) (fun cenv s₄ =>
      codeAny (model prog w) A (.compStart (.ListComp elt [⟨.Name x px, iter, ifs, 0⟩] scope pos) 0 (.ref it) acc { cenv with scope := relabel scope (f.env L cl) }) (RR acc { cenv with scope := relabel scope (f.env L cl) }) s₄) E₀ s₃) E₀ s₂ := by
  refine wpAny_newObj_type (wpAny_newFunctionEnv hcell (by intro y hy; cases hy) (fun h₁ hns₁ hsb₁ => ?_) hkind)
  have r2 : s₂.heap.StaysIn (s₂.heap.push { cls := .type "list", data := .seq ([] : List Value).toArray }) ∧ (s₂.heap.push { cls := .type "list", data := .seq ([] : List Value).toArray }).IsList s₂.heap.objs.size ([] : List Value).toArray :=
    ⟨StaysIn.push _ _, _, Heap.get?_push_size _ rfl, rfl, 0, rfl⟩
  have hn0 : ∀ {h : Heap}, h.get? h.objs.size = none := fun {h} => by
    cases q : h.get? h.objs.size with
    | none => rfl
    | some o => exact absurd (Heap.lt_size q) (Nat.lt_irrefl _)
  have hDn : s₂.heap.get? s₂.heap.objs.size = none := hn0
  change h₁.Ns (s₂.heap.push _).objs.size _ at hns₁
  change Heap.SameBut (s₂.heap.push _).objs.size ((s₂.heap.push _).push _) h₁ at hsb₁
  show codeAny _ A (.compStart _ 0 _ (.ref s₂.heap.objs.size) _) _ _
  generalize s₂.heap.push { cls := .type "list", data := .seq ([] : List Value).toArray } = H2 at r2 hns₁ hsb₁ ⊢
  obtain ⟨st2, hDl⟩ := r2
  generalize s₂.heap.objs.size = D at hDn hDl ⊢
  have hCn : H2.get? H2.objs.size = none := hn0
  have hgs : G.g.objs.size ≤ H2.objs.size := by
    obtain ⟨o, ho⟩ := G.last
    exact Nat.le_of_pred_lt (Heap.lt_size (st2 _ _ (W.cal.base _ _ ho)))
  clear hn0
  have eC : { newEnv scope H2.objs.size (f.env L cl).globals (clos cl.cells scope.names []) (f.env L cl).qual none .none (some (f.env L cl)) (f.env L cl).builtins with scope := relabel scope (f.env L cl) } = (f.comp scope (cn.map (·.1) ++ [x])).env L ⟨clos cl.cells scope.names [], H2.objs.size⟩ := rfl
  rw [eC]
  clear eC
  generalize H2.objs.size = C at hns₁ hsb₁ hCn hgs ⊢
  have st1 : H2.StaysIn h₁ := fun b o e => hsb₁.extBut b o (fun q => by rw [q, hCn] at e; cases e) (Heap.get?_push_of_some _ e)
  have st : s₂.heap.StaysIn h₁ := fun b o e => st1 b o (st2 b o e)
  have hCn₂ : s₂.heap.get? C = none := by
    cases q : s₂.heap.get? C with
    | none => rfl
    | some o => rw [st2 _ _ q] at hCn; cases hCn
  have new : ∀ {b : Addr}, s₂.heap.get? b = none → ((∀ o, h₀.get? b = some o → b ∈ R.foot σ₀) ∧ G.g.get? b = none) ∧ b ≠ L ∧ b ≠ (f.env L cl).locals ∧ b ∉ R.foot σ₂ := fun {b} hb => by
    refine ⟨⟨fun o e => ?_, ?_⟩, (fun e => Wf.F_ne W (e ▸ hb)), (fun e => by obtain ⟨m, o, es, ep, ho, _⟩ := W.ns; rw [← e, hb] at ho; cases ho), fun z => R.live W.cal.rep _ z hb⟩
    · by_cases q : b ∈ R.foot σ₀
      · exact q
      · obtain ⟨sl, e', _⟩ := S.keep b o e q
        rw [hb] at e'; cases e'
    · cases q : G.g.get? b with
      | none => rfl
      | some o => have := W.cal.base _ _ q; rw [hb] at this; cases this
  obtain ⟨⟨nC, bC⟩, cL, cl', fC⟩ := new hCn₂
  obtain ⟨⟨nD, bD⟩, dL, dl, _⟩ := new hDn
  have hCD : C ≠ D := fun e => by obtain ⟨o, ho, _⟩ := hDl; rw [← e, hCn] at ho; cases ho
  have hCfr : ∀ e ∈ outer, e.frame ≠ some C := fun e he hb => by
    obtain ⟨_, o, ho, _⟩ := W.cal.ff.mem (List.mem_filterMap.mpr ⟨e, he, hb⟩)
    rw [hCn₂] at ho; cases ho
  have hDl₁ : h₁.IsList D ([] : List Value).toArray := by obtain ⟨o, ho, r⟩ := hDl; exact ⟨o, st1 _ _ ho, r⟩
  have X : Cp G R f L cl outer ρ D C it h₀ σ₀ h₁ σ₂ l [] [] := by
    have S₁ : Stp R [] h₀ σ₀ h₁ σ₂ := S.trans W (.of_stays st)
    refine ⟨W.aside st hDn hDl₁, ⟨S₁.keep.mono fun b hb => .tail _ hb, fun b hb => (List.mem_cons.mp hb).elim (fun e => .inl (e ▸ .head _)) fun hb => (S₁.grow b hb).imp (.tail _) id⟩, ⟨?_, fun o e => .tail _ (I.new o e), fun z => (List.mem_cons.mp z).elim (fun e => by obtain ⟨o, ho, _⟩ := I.iter.fields; rw [e, hDn] at ho; cases ho) I.foot, I.base, I.ne⟩, ⟨_, hns₁⟩, fun z => (List.mem_cons.mp z).elim hCD fC, .nil⟩
    have := I.iter
    cases this with
    | lst hi hl hx hr =>
      obtain ⟨o, ho, r⟩ := hi
      obtain ⟨o', ho', r'⟩ := hl
      exact .lst ⟨o, st _ _ ho, r⟩ ⟨o', st _ _ ho', r'⟩ (fun z => (List.mem_cons.mp z).elim (fun e => by rw [e, hDn] at ho'; cases ho') hx) (hr.more st hDn)
    | rng hi => exact .rng (st _ _ hi)
  clear hns₁ hsb₁ hCn hDl hDl₁ st st1 st2 hDn hCn₂ new fC S I W
  have loop := fun tk => comp_turns (px := px) (iter := iter) (scope := scope) (pos := pos) (tk := tk) (clc := clos cl.cells scope.names []) (RR := RR (.ref D) ((f.comp scope (cn.map (·.1) ++ [x])).env L ⟨clos cl.cells scope.names [], C⟩)) hT hE rfl hkind hx (fun W hC hm r hf => Wf.comp (R := Rx R D (isL _)) W hx hcn hus hC hm r hf hgs) hA ⟨nC, bC, nD, bD, cL, cl', dL, dl, hCD⟩ hS
    (fun h' tk σ' vals vs e W' S' r hz hns hf => hok D _ h' tk σ' vals vs e W' S' r hz W'.cal.rep.2.2 ⟨hns, cL, cl', hCD, hf, bC, nC, hgs, hCfr⟩) (fun e h' tk q y hns => herr D _ e h' tk q y rfl hns nC bC hCfr) X hz rfl
  refine codeAny_compStart_list (loop _) ?_
  have hi := X.I.iter
  cases hi with
  | lst hi => exact wpAny_pyIter_listiter hi (loop _)
  | rng hi => exact wpAny_pyIter_rangeiter hi (loop _)
end
noncomputable def getvs (ρ : List V) : List Nat → Res (List V)
  | [] => .ok []
  | i :: is => (getv ρ i).bind fun v => (getvs ρ is).bind fun vs => .ok (v :: vs)
theorem getvs_ok {ρ : List V} {is : List Nat} : ∀ {us : List V}, getvs ρ is = .ok us → us = is.map (fun i => ρ.getD i .undef) ∧ ∀ i ∈ is, ∃ v, getv ρ i = .ok v := by
  induction is with
  | nil => intro us h; cases h; exact ⟨rfl, fun _ h => nomatch h⟩
  | cons i is ih =>
    intro us h
    obtain ⟨v, e1, h⟩ := Res.bind_eq_ok h
    obtain ⟨vs, e2, h⟩ := Res.bind_eq_ok h
    cases h
    obtain ⟨rfl, q2⟩ := ih e2
    refine ⟨by rw [List.map_cons, List.getD_eq_getElem?_getD, (getv_ok e1).1]; rfl, fun j hj => ?_⟩
    rcases List.mem_cons.mp hj with rfl | hj
    · exact ⟨v, e1⟩
    · exact q2 j hj
theorem getvs_err {ρ : List V} {is : List Nat} : getvs ρ is ≠ .err := by
  induction is with
  | nil => exact fun h => nomatch h
  | cons i is ih => exact fun h => (Res.bind_eq_err h).elim getv_err fun ⟨v, _, h⟩ => (Res.bind_eq_err h).elim ih fun ⟨vs, _, h⟩ => nomatch h
section
variable {prog : Program} {w : World} {KK : Frag} {G : Gd KK} {Sy : Type} {R : StRep Sy} {f : Fn} {n : Nat}
theorem ff_but {base h h' : Heap} {C : Addr} (k : Heap.ExtBut C h h') : ∀ {l : List Env}, h.FunFrames base l → (∀ e ∈ l, e.frame ≠ some C) → h'.FunFrames base l
  | [], _, _ => trivial
  | e :: _, ⟨hk, ⟨L, o, hf, hn, ho, hd⟩, hr⟩, hx => ⟨hk, ⟨L, o, hf, hn, k _ _ (fun q => hx e (.head _) (q ▸ hf)) ho, hd⟩, ff_but k hr fun e he => hx e (.tail _ he)⟩
theorem ff_hide {B h : Heap} {as : List Addr} : ∀ {l : List Env}, h.FunFrames B l → h.FunFrames (hideAll B as) l
  | [], _ => trivial
  | _ :: _, ⟨hk, ⟨L, o, hf, hn, ho, hd⟩, hr⟩ => ⟨hk, ⟨L, o, hf, (by
      cases q : (hideAll B as).get? L with
      | none => rfl
      | some o' => rw [of_hideAll _ q] at hn; cases hn), ho, hd⟩, ff_hide hr⟩
structure CompOk (f : Fn) (scope : Scope) (x : Str) (cn : List (Str × Nat)) : Prop where
  cell : ∀ y ∈ scope.names, y.2 ≠ .cell
  kind : scope.kind = .function
  names : ∀ y ∈ scope.names, y.2 = .local → scope.names.lookup y.1 = some .local
  hx : (f.comp scope (cn.map (·.1) ++ [x])).cs.names.lookup x = some .local
  hcn : ∀ p ∈ cn, f.vars[p.2]? = some p.1 ∧ f.cs.names.lookup p.1 = some .cell ∧ (f.comp scope (cn.map (·.1) ++ [x])).cs.names.lookup p.1 = some .cell ∧ (p.1, .free) ∈ scope.names
  free : ∀ y ∈ scope.names, y.2 = .free → y.1 ∈ cn.map (·.1)
theorem CompOk.closure {scope : Scope} {x : Str} {cn : List (Str × Nat)} (O : CompOk f scope x cn) {L : Addr} {cl : Cx} {outer : List Env} {h : Heap} {ρ : List V} {σ : R.T} {us : List V} (W : Wf G R (f.env L cl) f.vars outer h ρ σ) (hu : getvs ρ (cn.map (·.2)) = .ok us) :
    closureFor scope (f.env L cl) = pure (clos cl.cells scope.names []) := by
  refine closureFor_ fun y hy e => ?_
  obtain ⟨p, hp, e1⟩ := List.mem_map.mp (O.free y hy e)
  obtain ⟨h1, h2, h3, h4⟩ := O.hcn p hp
  obtain ⟨v, hv⟩ := (getvs_ok hu).2 p.2 (List.mem_map_of_mem hp)
  obtain ⟨hr, hne⟩ := getv_ok hv
  rcases W.var p.2 p.1 v h1 hr hne with ⟨hk, _⟩ | ⟨hk, c, vv', hc, _⟩
  · rw [show (f.env L cl).kindOf p.1 = f.cs.names.lookup p.1 from rfl, h2] at hk; cases hk
  · rw [← e1, hc]; rfl
theorem Wf.offC {L C : Addr} {cl : Cx} {outer : List Env} {h h' : Heap} {ρ : List V} {σ : R.T} (W : Wf G R (f.env L cl) f.vars outer h ρ σ) (hns : ∃ m, h.Ns C m) (hCL : C ≠ L) (hCl : C ≠ (f.env L cl).locals) (hCx : C ∉ R.foot σ) (hCb : G.g.get? C = none) (hCfr : ∀ e ∈ outer, e.frame ≠ some C) (hs : Heap.SameBut C h h') :
    Wf G R (f.env L cl) f.vars outer h' ρ σ ∧ (∀ v x, Rep (R.foot σ) h v x → Rep (R.foot σ) h' v x) ∧ ∀ vs x, RepL (R.foot σ) h vs x → RepL (R.foot σ) h' vs x := by
  obtain ⟨m, o, es, ep, ho, hd, hr⟩ := hns
  have k := hs.extBut
  have kp : Keep [C] h h' := .of_ext k (.head _)
  have hq : ∀ o' xs n, h.get? C = some o' → o'.data ≠ .seq xs n := fun o' xs n e z => by rw [ho] at e; cases e; rw [hd] at z; cases z
  have hY : ∀ b ∈ [C], b ∈ R.foot σ ∨ ∀ o' xs n, h.get? b = some o' → o'.data ≠ .seq xs n := fun b hb => by rcases List.mem_singleton.mp hb with rfl; exact .inr hq
  have rk : ∀ {a : Value} {y : V}, Rep (R.foot σ) h a y → Rep (R.foot σ) h' a y := fun r => r.keep kp (.refl _ _) hY
  refine ⟨?_, fun v x r => rk r, fun v x r => r.keep kp (.refl _ _) hY⟩
  have nk : ∀ {a : Addr} {m : Str → Option Value}, a ≠ C → h.Ns a m → h'.Ns a m := fun {a m} e hn => Ns.ext k hn e
  obtain ⟨m, hm⟩ := W.frame
  obtain ⟨m', hm'⟩ := W.ns
  refine ⟨W.above, ⟨fun c o e => k c o (fun q => by rw [q, hCb] at e; cases e) (W.cal.base c o e), ff_but k W.cal.ff hCfr, W.cal.nf, R.stable W.cal.rep fun a o e ha => k a o (fun q => ha.elim (fun ha => hCx (q ▸ ha)) fun ⟨_, xs, n, hd⟩ => hq o xs n (q ▸ e) hd) e⟩, W.top, ⟨L, m, rfl, nk (Ne.symm hCL) hm⟩, ⟨m', nk (Ne.symm hCl) hm'⟩, W.apart, fun i x v a b' c => ?_⟩
  rcases W.var i x v a b' c with ⟨hk, m, vv, hn, hm, r⟩ | ⟨hk, c, vv, hc, hx, ⟨o1, ho1, hd1⟩, r⟩
  · exact .inl ⟨hk, m, vv, nk (Ne.symm hCl) hn, hm, rk r⟩
  · exact .inr ⟨hk, c, vv, hc, hx, ⟨o1, k _ _ (fun q => by rw [q, ho] at ho1; cases ho1; rw [hd] at hd1; cases hd1) ho1, hd1⟩, rk r⟩
theorem comp_rep {L D : Addr} {cl : Cx} {outer : List Env} {h : Heap} {ρ : List V} {σ : R.T} {vs : List Value} {vals : List V} (W : Wf G (Rx R D (isL vs)) (f.env L cl) f.vars outer h ρ σ) (r : RepL (D :: R.foot σ) h vs vals) (hz : vals.length ≤ 4096) : Rep (R.foot σ) h (.ref D) (.lst vals) := by
  obtain ⟨oD, hoD, hcD, nD, hdD⟩ := W.cal.rep.2.1
  exact .lst hoD hcD hdD W.cal.rep.2.2 (r.mono fun a ha => .tail _ ha) hz
theorem comp_err {A : Around} {L : Addr} {outer : List Env} {cenv : Env} {s : Shared} {h₀ : Heap} {σ₀ : R.T} {e : Value} {E : Value → Shared → Prop} {h' : Heap} (x : ErrN G R outer L [] h₀ σ₀ e h') (hf : cenv.frame = some L) (hns : ∃ m, h'.Ns cenv.locals m) (hnew : ∀ o, h₀.get? cenv.locals = some o → cenv.locals ∈ R.foot σ₀) (hg : G.g.get? cenv.locals = none)
    (hfr : ∀ e ∈ outer, e.frame ≠ some cenv.locals) (hE : ∀ h'', Err G R outer L [] h₀ σ₀ e h'' → E e { s with heap := h'' }) :
    ∃ m, h'.Ns cenv.locals m ∧ ∀ h'', Heap.SameBut cenv.locals h' h'' → wpAny (model prog w) A (PySem.passOn "comprehension.variables-let-go" e cenv : Sem Value) (fun _ _ => False) E { s with heap := h'' } := by
  obtain ⟨m, hm⟩ := hns
  refine ⟨m, hm, fun h₂ hs => ?_⟩
  obtain ⟨⟨a, B, a0, rfl, b1, b2, b3, b4, b5, b6⟩, hk⟩ := x
  have k := hs.extBut
  obtain ⟨o, es, ep, ho, hd, hr⟩ := hm
  have b1' : (hideAll B [cenv.locals]).StaysIn h₂ := fun b o e => k b o (fun q => by rw [q, hideAll_none [cenv.locals] (.head _)] at e; cases e) (b1 b o (of_hideAll _ e))
  have b3' : h₂.FunFrames (hideAll B [cenv.locals]) outer := ff_but k (ff_hide b3) hfr
  have b4' : h₂.TracedAtW (hideAll B [cenv.locals]) a (.ref 31) a0 (rawInt L) := by
    obtain ⟨oe, vs, T, oT, ts, he, hcls, hd', h1, hnT, hTe, hT, hdT, h3⟩ := b4
    have nofl : ∀ {b o' vs}, h'.get? b = some o' → o'.data = .fields vs → b ≠ cenv.locals := fun {b o' vs} e hf q => by rw [q, ho] at e; cases e; rw [hd] at hf; cases hf
    refine ⟨oe, vs, T, oT, ts, k _ _ (nofl he hd') he, hcls, hd', h1, ?_, hTe, k _ _ (nofl hT hdT) hT, hdT, h3⟩
    cases q : (hideAll B [cenv.locals]).get? T with
    | none => rfl
    | some o => rw [of_hideAll _ q] at hnT; cases hnT
  refine passOn_ hf b1' b3' b4' fun h₃ c1 c2 c3 u => hE h₃ ?_
  have na : (hideAll B [cenv.locals]).get? a = none := by
    cases q : (hideAll B [cenv.locals]).get? a with
    | none => rfl
    | some o => rw [of_hideAll _ q] at b2; cases b2
  have cov : ∀ b o, h₀.get? b = some o → b ∉ R.foot σ₀ → (∃ vs, o.data = .fields vs) → (hideAll B [cenv.locals]).get? b = some o := fun b o e hb hd => hideAll_get _ (b6 b o e hb hd) fun z => hb (by
    rcases List.mem_singleton.mp z with rfl
    exact hnew _ e)
  have kk : Keep (R.foot σ₀) h₀ h₂ := fun b o e hb => by
    obtain ⟨sl, q, z⟩ := hk b o e hb
    exact ⟨sl, k _ _ (fun q => hb (by rw [q] at e ⊢; exact hnew _ e)) q, z⟩
  exact ⟨⟨a, _, rfl, ⟨c1, na, c2, .inr (.inr ⟨a0, c3⟩)⟩, fun b o e => hideAll_get _ (b5 b o e) (fun z => by rcases List.mem_singleton.mp z with rfl; rw [hg] at e; cases e), cov⟩, keep_on kk (fun b hb _ _ _ z => z hb) cov c1 u⟩
noncomputable def eCompD {Γ : Type} {S : Type} (Fi : Γ → Dn S (List V)) (Ft : Γ → Dn S Bool) (Fe : Γ → Dn S V) (cn : List (Str × Nat)) : Γ → Dn S V := fun γ ρ σ => (getvs ρ (cn.map (·.2))).bind fun us => ((Fi γ) ρ σ).bind fun p => if p.1.length ≤ 4096 then (compD (fun v => us ++ [v]) (Ft γ) (Fe γ) p.1 p.2).bind fun q => .ok (.lst q.1, q.2) else .stuck
@[simp] theorem eCompD_ap {Γ : Type} {S : Type} (Fi : Γ → Dn S (List V)) (Ft : Γ → Dn S Bool) (Fe : Γ → Dn S V) (cn : List (Str × Nat)) (γ : Γ) (ρ : List V) (σ : S) : (eCompD Fi Ft Fe cn) γ ρ σ = (getvs ρ (cn.map (·.2))).bind fun us => ((Fi γ) ρ σ).bind fun p => if p.1.length ≤ 4096 then (compD (fun v => us ++ [v]) (Ft γ) (Fe γ) p.1 p.2).bind fun q => .ok (.lst q.1, q.2) else .stuck := rfl
theorem eComp {Γ : Type} {γ : Γ} {elt iter : Expr} {x : Str} {px pos : Pos} {ifs : List Expr} {scope : Scope} {Fi : Γ → Den R (List V)} {Ft : Γ → Den R Bool} {Fe : Γ → Den R V} (cn : List (Str × Nat)) (O : CompOk f scope x cn) (hi : SndI prog w G R f n iter (Fi γ))
    (hT : ∀ D vs, SndX prog w G (Rx R D (isL vs)) (f.comp scope (cn.map (·.1) ++ [x])) n ifs (Ft γ)) (hE : ∀ D vs, jW prog w G (Rx R D (isL vs)) (f.comp scope (cn.map (·.1) ++ [x])) n elt (Fe γ))
    (hs : ∀ env x, foldedSetIterable iter env x = pure x := by intro _ _; rfl) :
    jW prog w G R f n (.ListComp elt [⟨.Name x px, iter, ifs, 0⟩] scope pos) (eCompD Fi Ft Fe cn γ) := Snd.mk fun L cl A outer s ρ σ Q E hA W K => by
  simp only [eCompD_ap] at K
  cases hg : getvs ρ (cn.map (·.2)) with
  | err => exact absurd hg getvs_err
  | stuck => exact absurd (by show (getvs _ _).bind _ = _; rw [hg]; rfl) K.ns
  | ok us =>
  have K : Kont G R f L cl outer rdV s.heap σ ρ s ((getvs ρ (cn.map (·.2))).bind fun us => ((Fi γ) ρ σ.1).bind fun p => if p.1.length ≤ 4096 then (compD (fun v => us ++ [v]) (Ft γ) (Fe γ) p.1 p.2).bind fun q => .ok (.lst q.1, q.2) else .stuck) Q E := K
  rw [hg] at K
  simp only [Res.bind_ok] at K
  rw [eval_ListComp]
  refine listComp_ (use := none) _ (hs _) (O.closure W hg) O.kind O.names ?_
  refine hi L cl A outer s ρ σ _ E hA W (fun l σ₁ it h₁ tk₁ e₁ W₁ S₁ I₁ => ?_) (fun e h' tk q x => K.er e h' tk (by rw [q]; rfl) x) (Res.ne_stuck_left K.ns)
  rw [e₁] at K
  simp only [Res.bind_ok] at K
  by_cases hz : l.length ≤ 4096
  · simp only [hz, if_true] at K
    refine comp_loop (s₂ := ⟨_, _, _, _, _⟩) hT hE O.cell O.kind O.hx O.hcn (by have := (getvs_ok hg).1; rw [this, List.map_map]; rfl) hz hA W₁ S₁ I₁ (Res.ne_stuck_left K.ns) (fun D cenv h' tk σ' vals vs e W' S' r hzv hD X => ?_) (fun D cenv e h' tk q y hf hns hnew hg' hfr => ?_)
    · obtain ⟨m, hm⟩ := X.ns
      refine ⟨m, hm, fun h'' hs'' => ?_⟩
      obtain ⟨W2, r2, _⟩ := W'.weak.offC ⟨m, hm⟩ X.ne X.nl X.foot X.base X.fr hs''
      refine K.ok _ σ' _ h'' tk (by rw [e]; rfl) W2 ⟨fun b o' e hb => ?_, S'.grow⟩ (r2 _ _ (comp_rep W' r hzv))
      obtain ⟨sl, q, z⟩ := S'.keep b o' e hb
      exact ⟨sl, hs''.extBut _ _ (fun q => hb (by rw [q] at e ⊢; exact X.new _ e)) q, z⟩
    · exact comp_err (s := ⟨_, _, _, tk, _⟩) y hf hns hnew hg' hfr fun h'' y' => K.er e h'' tk (by rw [q]; rfl) y'
  · simp only [hz, if_false] at K; exact absurd rfl K.ns
noncomputable def sCompD {Γ : Type} {S : Type} (Fi : Γ → Dn S (List V)) (Ft : Γ → Dn S Bool) (Fe : Γ → Dn S V) (i : Nat) (cn : List (Str × Nat)) : Γ → Dn S (Out × List V) := fun γ ρ σ => (getvs ρ (cn.map (·.2))).bind fun us => ((Fi γ) ρ σ).bind fun p => if p.1.length ≤ 4096 then (compD (fun v => us ++ [v]) (Ft γ) (Fe γ) p.1 p.2).bind fun q => .ok ((.next, ρ.set i (.lst q.1)), q.2) else .stuck
@[simp] theorem sCompD_ap {Γ : Type} {S : Type} (Fi : Γ → Dn S (List V)) (Ft : Γ → Dn S Bool) (Fe : Γ → Dn S V) (i : Nat) (cn : List (Str × Nat)) (γ : Γ) (ρ : List V) (σ : S) : (sCompD Fi Ft Fe i cn) γ ρ σ = (getvs ρ (cn.map (·.2))).bind fun us => ((Fi γ) ρ σ).bind fun p => if p.1.length ≤ 4096 then (compD (fun v => us ++ [v]) (Ft γ) (Fe γ) p.1 p.2).bind fun q => .ok ((.next, ρ.set i (.lst q.1)), q.2) else .stuck := rfl
theorem sComp {Γ : Type} {γ : Γ} {elt iter : Expr} {x y : Str} {px py pos spos : Pos} {ifs : List Expr} {scope : Scope} {Fi : Γ → Den R (List V)} {Ft : Γ → Den R Bool} {Fe : Γ → Den R V} (i : Nat) (cn : List (Str × Nat)) (hF : FOk f) (O : CompOk f scope x cn) (hi : SndI prog w G R f n iter (Fi γ))
    (hT : ∀ D vs, SndX prog w G (Rx R D (isL vs)) (f.comp scope (cn.map (·.1) ++ [x])) n ifs (Ft γ)) (hE : ∀ D vs, jW prog w G (Rx R D (isL vs)) (f.comp scope (cn.map (·.1) ++ [x])) n elt (Fe γ))
    (hiy : f.vars[i]? = some y := by rfl) (hky : f.cs.names.lookup y = some .local := by decide +kernel) (hC : f.isC = false := by rfl)
    (hsw : ∀ L cl, swapsWith (.ListComp elt [⟨.Name x px, iter, ifs, 0⟩] scope pos) (some (.Name y py)) spos.line (f.env L cl) = pure true := by intro _ _; rfl) (hs : ∀ env x, foldedSetIterable iter env x = pure x := by intro _ _; rfl) :
    SndS prog w G R f n (.Assign [.Name y py] (.ListComp elt [⟨.Name x px, iter, ifs, 0⟩] scope pos) spos) (sCompD Fi Ft Fe i cn γ) := SndG.mk fun L cl A outer s ρ σ Q E hA W K => by
  simp only [sCompD_ap] at K
  cases hg : getvs ρ (cn.map (·.2)) with
  | err => exact absurd hg getvs_err
  | stuck => exact absurd (by show (getvs _ _).bind _ = _; rw [hg]; rfl) K.ns
  | ok us =>
  have K : KontS G R f L cl outer s.heap σ s ((getvs ρ (cn.map (·.2))).bind fun us => ((Fi γ) ρ σ.1).bind fun p => if p.1.length ≤ 4096 then (compD (fun v => us ++ [v]) (Ft γ) (Fe γ) p.1 p.2).bind fun q => .ok ((.next, ρ.set i (.lst q.1)), q.2) else .stuck) Q E := K
  rw [hg] at K
  simp only [Res.bind_ok] at K
  rw [exec_Assign_Name_used _ _ _ _ (hsw _ _)]
  refine wpAny_bind (wpAny_standAt (wpAny_bind ?_))
  show wpAny _ A (do let _ ← comprehension (.ListComp elt [⟨.Name x px, iter, ifs, 0⟩] scope pos) scope (f.env L cl) _ (newList []) false (eval iter (f.env L cl)) (some (assign (.Name y py) (f.env L cl)))) _ _ s
  refine wpAny_bind (wpAny_mono (listComp_ (use := some (assign (.Name y py) (f.env L cl))) (Q := fun _ s' => Q .next s') (E := E) _ (hs _) (O.closure W hg) O.kind O.names ?_) (fun _ s' hq => wpAny_pure (wpAny_pure hq)) fun _ _ e => e)
  refine hi L cl A outer s ρ σ _ E hA W (fun l σ₁ it h₁ tk₁ e₁ W₁ S₁ I₁ => ?_) (fun e h' tk q x => K.er e h' tk (by rw [q]; rfl) x.mono) (Res.ne_stuck_left K.ns)
  rw [e₁] at K
  simp only [Res.bind_ok] at K
  by_cases hz : l.length ≤ 4096
  · simp only [hz, if_true] at K
    refine comp_loop (s₂ := ⟨_, _, _, _, _⟩) hT hE O.cell O.kind O.hx O.hcn (by have := (getvs_ok hg).1; rw [this, List.map_map]; rfl) hz hA W₁ S₁ I₁ (Res.ne_stuck_left K.ns) (fun D cenv h' tk σ' vals vs e W' S' r hzv hD X => ?_) (fun D cenv e h' tk q y hf hns hnew hg' hfr => ?_)
    · show wpAny _ A (assign (.Name y py) (f.env L cl) (.ref D)) _ _ _
      refine assign_Name (store_ (s := ⟨h', _, _, _, _⟩) W'.weak hC hF.nd hiy hky hF.kind (comp_rep W' r hzv) fun h₃ tk₃ W₃ S₃ => ?_)
      have hn3 : ∃ m, h₃.Ns cenv.locals m := by
        obtain ⟨m, o, es, ep, ho, r⟩ := X.ns
        obtain ⟨sl, q, _⟩ := S₃.keep _ _ ho fun z => (List.mem_cons.mp z).elim X.ne X.foot
        exact ⟨m, _, es, ep, q, r⟩
      obtain ⟨m3, hm3⟩ := hn3
      refine ⟨m3, hm3, fun h'' hs'' => ?_⟩
      obtain ⟨W2, _, _⟩ := W₃.offC ⟨m3, hm3⟩ X.ne X.nl X.foot X.base X.fr hs''
      have S4 := S'.mono.trans W'.weak S₃
      refine K.ok .next _ σ' .next h'' tk₃ (by rw [e]; rfl) W2 ⟨fun b o' e hb => ?_, S4.grow⟩ trivial
      obtain ⟨sl, q, z⟩ := S4.keep b o' e hb
      exact ⟨sl, hs''.extBut _ _ (fun q => hb (.tail _ (by rw [q] at e ⊢; exact X.new _ e))) q, z⟩
    · exact comp_err (s := ⟨_, _, _, tk, _⟩) y hf hns hnew hg' hfr fun h'' y' => K.er e h'' tk (by rw [q]; rfl) y'.mono
  · simp only [hz, if_false] at K; exact absurd rfl K.ns
end
section
variable {prog : Program} {w : World} {KK : Frag} {G : Gd KK} {Sy : Type} {R : StRep Sy} {f : Fn} {n : Nat}
noncomputable def eGID {Γ : Type} {S : Type} (i : Int) : Γ → Dn S V := fun γ ρ σ => .ok (.int i, σ)
theorem eGI {Γ : Type} {γ : Γ} {x : Str} {pos : Pos} (i : Int) {t : Tok} (e : nsIn KK mainGlobals x = some (some (.int i t)) := by rfl) (hk : f.cs.kind = .function := by rfl) (hx : f.cs.names.lookup x = some .globalImplicit := by decide +kernel) (hd : (x == ("__debug__" : Str)) = false := by decide +kernel) :
    jW prog w G R f n (.Name x pos) (eGID i γ) := eGlob (γ := γ) e (fun _ => .int _ _) (fun _ _ _ => .int _ _) hk hx hd
noncomputable def eCD {Γ : Type} {S : Type} (F : Γ → List V → S → Res (V × S)) (Fs : Γ → Dn S (List V)) : Γ → Dn S V := fun γ ρ σ => ((Fs γ) ρ σ).bind fun p => (F γ) p.1 p.2
theorem eC {Γ : Type} {γ : Γ} {x : Str} {np pos : Pos} {a : Expr} {as : List Expr} {fa : Addr} {m : Nat} {F : Γ → List V → Sy → Res (V × Sy)} {Fs : Γ → Den R (List V)} (hf : FS prog w G R fa m (F γ)) (hl : SndL prog w G R f n pos (a :: as) (Fs γ)) (hm : m ≤ n := by omega) (e : nsIn KK mainGlobals x = some (some (.ref fa)) := by rfl)
    (hk : f.cs.kind = .function := by rfl) (hx : f.cs.names.lookup x = some .globalImplicit := by decide +kernel) (hd : (x == ("__debug__" : Str)) = false := by decide +kernel) (hkeep : keepIn KK (.ref fa) = true := by rfl)
    (h1 : ∀ env, starEach (a :: as) env = (false, eval a env) :: starEach as env := by intro; rfl) (h2 : ∀ env, ((backTo pos (starEach as env)).any fun x => x.1) = false := by intro; rfl) :
    jW prog w G R f n (.Call (.Name x np) (a :: as) [] pos) (eCD F Fs γ) := eCall hf hm e hl hk hx hd hkeep h1 h2
noncomputable def eLenD {Γ : Type} {S : Type} (Fs : Γ → Dn S (List V)) : Γ → Dn S V := fun γ ρ σ => ((Fs γ) ρ σ).bind fun p => (jV (evLen p.1)).bind fun v => .ok (v, p.2)
theorem eLen {Γ : Type} {γ : Γ} {np pos : Pos} {a : Expr} {x : Str} {Fs : Γ → Den R (List V)} (hl : SndL prog w G R f n pos [a] (Fs γ)) (hxl : x = "len" := by rfl) (e : nsIn KK mainGlobals x = some none := by rfl) (hv : bootBuiltins x = some (.builtin "len") := by rfl) (hn : x ≠ "__name__" := by decide +kernel)
    (hk : f.cs.kind = .function := by rfl) (hx : f.cs.names.lookup x = some .globalImplicit := by decide +kernel) (hd : (x == ("__debug__" : Str)) = false := by decide +kernel)
    (h1 : ∀ env, starEach [a] env = (false, eval a env) :: starEach [] env := by intro; rfl) (h2 : ∀ env, ((backTo pos (starEach [a] env)).any fun x => x.1) = false := by intro; rfl) :
    jW prog w G R f n (.Call (.Name x np) [a] [] pos) (eLenD Fs γ) := eBlt op_len e hv hn hl hk hx hd h1 h2
theorem kindLoc {vs : List Str} {cs : Scope} (h : ∀ x ∈ vs, cs.names.lookup x = some .local) : ∀ L : Nat, ∀ x ∈ vs, cs.names.lookup x = some .local ∨ (cs.names.lookup x = some .cell ∧ ((cellsFrom (L + 1) cs.names []).lookup x).isSome = true) := fun _ x hx => .inl (h x hx)
@[simp] theorem onSelf_self {α : Type} (mc : MC) (l : List V) (r : Res α) : onSelf mc (.ref mc.x :: l) r = r := onSelf_cons mc l r
end
structure MOk (KK : Frag) : Prop where
  C : ClsOk KK
  LS : LAOk KK true
  LL : LAOk KK false
  ID : IAOk KK .depth
  IL : IAOk KK .level
  text : ∃ x, findIn KK (.ref 253) "text" = some x ∧ noGet KK x = true
  pat : ∃ x, findIn KK (.ref 253) "pattern" = some x ∧ noGet KK x = true
  most : ∃ x, findIn KK (.ref 253) "most_depth" = some x ∧ noGet KK x = true
  tick : ∃ x, findIn KK (.ref 253) "tick" = some x ∧ noGet KK x = true
  O : LuaOk KK
section
variable {prog : Program} {w : World} {KK : Frag} {G : Gd KK} {mc : MC} {f : Fn} {n : Nat}
noncomputable def aTextD {Γ : Type} (μ : Γ → MC) : Γ → Dn MS V := fun γ ρ σ => onSelf (μ γ) ρ (.ok (.bytes (μ γ).text, σ))
@[simp] theorem aTextD_ap {Γ : Type} (μ : Γ → MC) (γ : Γ) (ρ : List V) (σ : MS) : (aTextD μ) γ ρ σ = onSelf (μ γ) ρ (.ok (.bytes (μ γ).text, σ)) := rfl
theorem aText {Γ : Type} {γ : Γ} {μ : Γ → MC} {xp pos : Pos} {nm : Str} (hF : FOk f) (M : MOk KK) (hnm : nm = "text" := by rfl) (hi : f.vars[0]? = some jH := by rfl)
    (he : ∀ env, eval (.Attribute (.Name jH xp) nm pos) env = (do let o ← eval (.Name jH xp) env; standAt pos.atName; let r ← holding [o] (getAttr o nm true); letTemporaryGo (.Name jH xp) o r; pure r) := by intro; rfl) :
    jW prog w G (RMw w G (μ γ)) f n (.Attribute (.Name jH xp) nm pos) (aTextD μ γ) := by
  subst hnm; obtain ⟨x, h1, h2⟩ := M.text
  exact mAttr (fun _ => .bytes (μ γ).text) (fun _ k => .bytes (μ γ).text.toArray (k 1)) hF hi M.C h1 h2 (fun _ _ => rfl) (fun _ _ _ _ r => .bytes _ _ r.ztext) (fun _ _ => rfl) he
noncomputable def aPatD {Γ : Type} (μ : Γ → MC) : Γ → Dn MS V := fun γ ρ σ => onSelf (μ γ) ρ (.ok (.bytes (μ γ).pat, σ))
@[simp] theorem aPatD_ap {Γ : Type} (μ : Γ → MC) (γ : Γ) (ρ : List V) (σ : MS) : (aPatD μ) γ ρ σ = onSelf (μ γ) ρ (.ok (.bytes (μ γ).pat, σ)) := rfl
theorem aPat {Γ : Type} {γ : Γ} {μ : Γ → MC} {xp pos : Pos} {nm : Str} (hF : FOk f) (M : MOk KK) (hnm : nm = "pattern" := by rfl) (hi : f.vars[0]? = some jH := by rfl)
    (he : ∀ env, eval (.Attribute (.Name jH xp) nm pos) env = (do let o ← eval (.Name jH xp) env; standAt pos.atName; let r ← holding [o] (getAttr o nm true); letTemporaryGo (.Name jH xp) o r; pure r) := by intro; rfl) :
    jW prog w G (RMw w G (μ γ)) f n (.Attribute (.Name jH xp) nm pos) (aPatD μ γ) := by
  subst hnm; obtain ⟨x, h1, h2⟩ := M.pat
  exact mAttr (fun _ => .bytes (μ γ).pat) (fun _ k => .bytes (μ γ).pat.toArray (k 3)) hF hi M.C h1 h2 (fun _ _ => rfl) (fun _ _ _ _ r => .bytes _ _ r.zpat) (fun _ _ => rfl) he
noncomputable def aMostD {Γ : Type} (μ : Γ → MC) : Γ → Dn MS V := fun γ ρ σ => onSelf (μ γ) ρ (.ok (.int 60, σ))
@[simp] theorem aMostD_ap {Γ : Type} (μ : Γ → MC) (γ : Γ) (ρ : List V) (σ : MS) : (aMostD μ) γ ρ σ = onSelf (μ γ) ρ (.ok (.int 60, σ)) := rfl
theorem aMost {Γ : Type} {γ : Γ} {μ : Γ → MC} {xp pos : Pos} {nm : Str} (hF : FOk f) (M : MOk KK) (hnm : nm = "most_depth" := by rfl) (hi : f.vars[0]? = some jH := by rfl)
    (he : ∀ env, eval (.Attribute (.Name jH xp) nm pos) env = (do let o ← eval (.Name jH xp) env; standAt pos.atName; let r ← holding [o] (getAttr o nm true); letTemporaryGo (.Name jH xp) o r; pure r) := by intro; rfl) :
    jW prog w G (RMw w G (μ γ)) f n (.Attribute (.Name jH xp) nm pos) (aMostD μ γ) := by
  subst hnm; obtain ⟨x, h1, h2⟩ := M.most
  exact mAttr (fun _ => .int 60) (fun _ k => .int 60 (k 5)) hF hi M.C h1 h2 (fun _ _ => rfl) (fun _ _ _ _ r => .int _ _) (fun _ _ => rfl) he
noncomputable def aTickD {Γ : Type} (μ : Γ → MC) : Γ → Dn MS V := fun γ ρ σ => onSelf (μ γ) ρ (.ok (.none, σ))
@[simp] theorem aTickD_ap {Γ : Type} (μ : Γ → MC) (γ : Γ) (ρ : List V) (σ : MS) : (aTickD μ) γ ρ σ = onSelf (μ γ) ρ (.ok (.none, σ)) := rfl
theorem aTick {Γ : Type} {γ : Γ} {μ : Γ → MC} {xp pos : Pos} {nm : Str} (hF : FOk f) (M : MOk KK) (hnm : nm = "tick" := by rfl) (hi : f.vars[0]? = some jH := by rfl)
    (he : ∀ env, eval (.Attribute (.Name jH xp) nm pos) env = (do let o ← eval (.Name jH xp) env; standAt pos.atName; let r ← holding [o] (getAttr o nm true); letTemporaryGo (.Name jH xp) o r; pure r) := by intro; rfl) :
    jW prog w G (RMw w G (μ γ)) f n (.Attribute (.Name jH xp) nm pos) (aTickD μ γ) := by
  subst hnm; obtain ⟨x, h1, h2⟩ := M.tick
  exact mAttr (fun _ => .none) (fun _ k => .none) hF hi M.C h1 h2 (fun _ _ => rfl) (fun _ _ _ _ r => .none) (fun _ _ => rfl) he
noncomputable def aIntD {Γ : Type} (μ : Γ → MC) (a : IA) : Γ → Dn MS V := fun γ ρ σ => onSelf (μ γ) ρ (.ok (.int (a.get σ), σ))
@[simp] theorem aIntD_ap {Γ : Type} (μ : Γ → MC) (a : IA) (γ : Γ) (ρ : List V) (σ : MS) : (aIntD μ a) γ ρ σ = onSelf (μ γ) ρ (.ok (.int (a.get σ), σ)) := rfl
theorem aInt {Γ : Type} {γ : Γ} {μ : Γ → MC} {xp pos : Pos} {nm : Str} (a : IA) (hF : FOk f) (M : MOk KK) (hnm : nm = a.name := by rfl) (hi : f.vars[0]? = some jH := by rfl)
    (he : ∀ env, eval (.Attribute (.Name jH xp) nm pos) env = (do let o ← eval (.Name jH xp) env; standAt pos.atName; let r ← holding [o] (getAttr o nm true); letTemporaryGo (.Name jH xp) o r; pure r) := by intro; rfl) :
    jW prog w G (RMw w G (μ γ)) f n (.Attribute (.Name jH xp) nm pos) (aIntD μ a γ) := by
  subst hnm
  obtain ⟨x, h1, h2⟩ : ∃ x, findIn KK (.ref 253) a.name = some x ∧ noGet KK x = true := by
    cases a
    · exact M.ID.find
    · exact M.IL.find
  exact mAttr (fun σ => .int (a.get σ)) (fun τ k => .int (a.get τ.1) (k a.tok)) hF hi M.C h1 h2 (fun σ k => a.hget _ _ _ _) (fun _ _ _ _ r => .int _ _) (fun _ _ => rfl) he
theorem mC {Γ : Type} {γ : Γ} {μ : Γ → MC} {name : Str} {xp apos pos : Pos} {a : Expr} {as : List Expr} {fa : Addr} {m : Nat} {F : Γ → List V → MS → Res (V × MS)} {Fs : Γ → Dn MS (List V)} (hF : FOk f) (M : MOk KK)
    (hfs : FS prog w G (RMw w G (μ γ)) fa m (F γ)) (hl : SndL prog w G (RMw w G (μ γ)) f n pos (a :: as) (Fs γ)) (hm : m ≤ n := by omega) (hi : f.vars[0]? = some jH := by rfl)
    (hf : findIn KK (.ref 253) name = some (some (.ref fa)) := by rfl) (ht : typeIn KK (.ref fa) = some (.type "function") := by rfl) (hg : ∀ σ k, getL name (mEnts w.params (μ γ) σ k) = some none := by intro _ _; rfl) (hkeep : keepIn KK (.ref fa) = true := by rfl) (hline : (apos.endLine == pos.line) = true := by rfl)
    (hb : ∀ env, attributeBase (.Name jH xp) name env (eval (.Name jH xp) env) = eval (.Name jH xp) env := by intro; rfl)
    (hform : ∀ env, methodCallForm ((a :: as).length + ([] : List Keyword).length) (backTo pos (starEach (a :: as) env)) (backToKw pos (keywordEach [] env)) = true := by intro; rfl)
    (h1 : ∀ env, starEach (a :: as) env = (false, eval a env) :: starEach as env := by intro; rfl) (h2 : ∀ env, ((backTo pos (starEach as env)).any fun x => x.1) = false := by intro; rfl) :
    jW prog w G (RMw w G (μ γ)) f n (.Call (.Attribute (.Name jH xp) name apos) (a :: as) [] pos) (mCallD μ F Fs γ) := mCall hF hi M.C hfs hm hl hf ht hg hkeep hline hb hform h1 h2
theorem mC0 {Γ : Type} {γ : Γ} {μ : Γ → MC} {name : Str} {xp apos pos : Pos} {fa : Addr} {m : Nat} {F : Γ → List V → MS → Res (V × MS)} (hF : FOk f) (M : MOk KK)
    (hfs : FS prog w G (RMw w G (μ γ)) fa m (F γ)) (hm : m ≤ n := by omega) (hi : f.vars[0]? = some jH := by rfl)
    (hf : findIn KK (.ref 253) name = some (some (.ref fa)) := by rfl) (ht : typeIn KK (.ref fa) = some (.type "function") := by rfl) (hg : ∀ σ k, getL name (mEnts w.params (μ γ) σ k) = some none := by intro _ _; rfl) (hkeep : keepIn KK (.ref fa) = true := by rfl) (hline : (apos.endLine == pos.line) = true := by rfl)
    (hb : ∀ env, attributeBase (.Name jH xp) name env (eval (.Name jH xp) env) = eval (.Name jH xp) env := by intro; rfl)
    (hform : ∀ env, methodCallForm (([] : List Expr).length + ([] : List Keyword).length) (backTo pos (starEach [] env)) (backToKw pos (keywordEach [] env)) = true := by intro; rfl) :
    jW prog w G (RMw w G (μ γ)) f n (.Call (.Attribute (.Name jH xp) name apos) [] [] pos) (mCall0D μ F γ) := mCall0 hF hi M.C hfs hm hf ht hg hkeep hline hb hform
theorem MOk.la {KK : Frag} (M : MOk KK) (isS : Bool) : LAOk KK isS := by
  cases isS
  · exact M.LL
  · exact M.LS
theorem MOk.ia {KK : Frag} (M : MOk KK) (a : IA) : IAOk KK a := by
  cases a
  · exact M.ID
  · exact M.IL
theorem aIt {Γ : Type} {γ : Γ} {μ : Γ → MC} {attr x : Str} {ap xp ip pos : Pos} (isS : Bool) (i : Nat) (hF : FOk f) (M : MOk KK) (hi : f.vars[0]? = some jH := by rfl) (hat : attr = lname isS := by rfl) (hix : f.vars[i]? = some x := by rfl)
    (he : ∀ env, eval (.Attribute (.Name jH xp) attr ap) env = (do let o ← eval (.Name jH xp) env; standAt ap.atName; let r ← holding [o] (getAttr o attr true); letTemporaryGo (.Name jH xp) o r; pure r) := by intro; rfl) :
    jW prog w G (RMw w G (μ γ)) f n (.Subscript (.Attribute (.Name jH xp) attr ap) (.Name x ip) pos) (mItemD μ isS i γ) := mItem isS i hF hi M.C (M.la isS) hat hix he
theorem sSI {Γ : Type} {γ : Γ} {μ : Γ → MC} {xp pos pos' : Pos} {e : Expr} {F : Γ → Dn MS V} (a : IA) (hF : FOk f) (M : MOk KK) (hx : jW prog w G (RMw w G (μ γ)) f n e (F γ))
    {nm : Str} (hnm : nm = a.name := by rfl) (hi : f.vars[0]? = some jH := by rfl) (hsw : ∀ env, swapsWith e (some (.Attribute (.Name jH xp) nm pos')) pos.line env = pure false := by intro; rfl) (hC : f.isC = false := by rfl) :
    SndS prog w G (RMw w G (μ γ)) f n (.Assign [.Attribute (.Name jH xp) nm pos'] e pos) (sSetID μ F a γ) := sSetI a hF hi M.C (M.ia a) hx hnm hsw hC
theorem sAI {Γ : Type} {γ : Γ} {μ : Γ → MC} {xp pos pos' : Pos} {op : Operator} {e : Expr} {F : Γ → Dn MS V} {ev : V → V → Option V} (a : IA) (hF : FOk f) (M : MOk KK) (hop : Op2 prog w Rep (inplaceOp op) ev) (hx : jW prog w G (RMw w G (μ γ)) f n e (F γ)) {nm : Str} (hnm : nm = a.name := by rfl) (hi : f.vars[0]? = some jH := by rfl) (hC : f.isC = false := by rfl) :
    SndS prog w G (RMw w G (μ γ)) f n (.AugAssign (.Attribute (.Name jH xp) nm pos') op e pos) (sAugID μ F ev a γ) := sAugI a hF hi M.C (M.ia a) hop hx hnm hC
theorem sSN {Γ : Type} {γ : Γ} {μ : Γ → MC} {xp pos pos' lp : Pos} (isS : Bool) (hF : FOk f) (M : MOk KK)
    {nm : Str} (hnm : nm = lname isS := by rfl) (hi : f.vars[0]? = some jH := by rfl) (hsw : ∀ env, swapsWith (.List [] lp) (some (.Attribute (.Name jH xp) nm pos')) pos.line env = pure false := by intro; rfl) (hC : f.isC = false := by rfl) :
    SndS prog w G (RMw w G (μ γ)) f n (.Assign [.Attribute (.Name jH xp) nm pos'] (.List [] lp) pos) (sSetNilD μ isS γ) := sSetNil isS hF hi M.C (M.la isS) hnm hsw hC
theorem sSA {Γ : Type} {γ : Γ} {μ : Γ → MC} {x2 x3 a2 a3 lp bp sp sp2 xp np pos pos' : Pos} {x : Str} (isS : Bool) (i : Nat) (hF : FOk f) (M : MOk KK) (hix : f.vars[i]? = some x := by rfl)
    {nm : Str} (hnm : nm = lname isS := by rfl) {lv : Str} (hlv : lv = IA.name .level := by rfl) (hi : f.vars[0]? = some jH := by rfl)
    (hsw : ∀ env, swapsWith (.BinOp (.Subscript (.Attribute (.Name jH x2) nm a2) (.Slice none (some (.Attribute (.Name jH x3) lv a3)) none sp) sp2) .Add (.List [.Name x np] lp) bp) (some (.Attribute (.Name jH xp) nm pos')) pos.line env = pure false := by intro; rfl)
    (he1 : ∀ env, eval (.Attribute (.Name jH x2) nm a2) env = (do let o ← eval (.Name jH x2) env; standAt a2.atName; let r ← holding [o] (getAttr o nm true); letTemporaryGo (.Name jH x2) o r; pure r) := by intro; rfl)
    (he2 : ∀ env, eval (.Attribute (.Name jH x3) lv a3) env = (do let o ← eval (.Name jH x3) env; standAt a3.atName; let r ← holding [o] (getAttr o lv true); letTemporaryGo (.Name jH x3) o r; pure r) := by intro; rfl) (hC : f.isC = false := by rfl) :
    SndS prog w G (RMw w G (μ γ)) f n (.Assign [.Attribute (.Name jH xp) nm pos'] (.BinOp (.Subscript (.Attribute (.Name jH x2) nm a2) (.Slice none (some (.Attribute (.Name jH x3) lv a3)) none sp) sp2) .Add (.List [.Name x np] lp) bp) pos)
      (sSetAppD μ isS i γ) := sSetApp isS i hF hi M.C (M.la isS) M.IL hix hnm hlv hsw he1 he2 hC
theorem sSIt {Γ : Type} {γ : Γ} {μ : Γ → MC} {ap xp np pos pos' : Pos} {x : Str} {e : Expr} {F : Γ → Dn MS V} (i : Nat) (hF : FOk f) (M : MOk KK) (hx : jW prog w G (RMw w G (μ γ)) f n e (F γ)) (hi : f.vars[0]? = some jH := by rfl) (hix : f.vars[i]? = some x := by rfl)
    {nm : Str} (hnm : nm = lname false := by rfl)
    (hsw : ∀ env, swapsWith e (some (.Subscript (.Attribute (.Name jH xp) nm ap) (.Name x np) pos')) pos.line env = pure false := by intro; rfl)
    (he1 : ∀ env, eval (.Attribute (.Name jH xp) nm ap) env = (do let o ← eval (.Name jH xp) env; standAt ap.atName; let r ← holding [o] (getAttr o nm true); letTemporaryGo (.Name jH xp) o r; pure r) := by intro; rfl) :
    SndS prog w G (RMw w G (μ γ)) f n (.Assign [.Subscript (.Attribute (.Name jH xp) nm ap) (.Name x np) pos'] e pos)
      (sSetItemD μ F i γ) := sSetItem i hF hi M.C M.LL hix hx hnm hsw he1
noncomputable def sRzD {Γ : Type} {S : Type} (F : Γ → Dn S V) : Γ → Dn S (Out × List V) := fun γ ρ σ => ((F γ) ρ σ).bind fun p => .err
theorem sRz {Γ : Type} {γ : Γ} {Sy : Type} {R : StRep Sy} {x : Str} {np cpos pos : Pos} {a : Expr} {F : Γ → Den R V} (M : MOk KK) (ha : jW prog w G R f n a (F γ)) (e : nsIn KK mainGlobals x = some (some (.ref 31)) := by rfl) (hkeep : keepIn KK (.ref 31) = true := by rfl)
    (hk : f.cs.kind = .function := by rfl) (hx : f.cs.names.lookup x = some .globalImplicit := by decide +kernel) (hd : (x == ("__debug__" : Str)) = false := by decide +kernel)
    (h1 : ∀ env, starEach [a] env = [(false, eval a env)] := by intro; rfl) :
    SndS prog w G R f n (.Raise (some (.Call (.Name x np) [a] [] cpos)) none pos) (sRzD F γ) := sRaise M.O ha e hkeep hk hx hd h1
end
open PySem PySem.W PySem.Calls PyProof.Rows PySem.Spec
open Builtin
theorem meets_contains (b : Array UInt8) (t : Tok) (i : Int) (u : Tok) (h0 : 0 ≤ i ∧ i < 256) :
    Meets («bytes.__contains__» ⟨[.bytes b t, .int i u], []⟩) (fun _ R s => R (.ok (.ret (.bool (b.contains i.toNat.toUInt8)))) s) :=
  .of_wp fun prog w A R s h => by
    obtain ⟨hp, g, d, tk, os⟩ := s
    have hc : ¬ ((decide (i < 0) || decide (i ≥ 256)) = true) := by simp; omega
    wp_walk using (wpAny_of_eq KBy.buffer_eq)
    exact ⟨_, rfl, h⟩
noncomputable def evInB : V → V → Option V := on2 V.int? V.bytes? fun i b => if 0 ≤ i ∧ i < 256 then some (.bool (b.any fun c => (c.toNat : Int) == i)) else none
section
variable {prog : Program} {w : World}
theorem contains_int (b : List UInt8) {i : Int} (hi : 0 ≤ i ∧ i < 256) : b.toArray.contains i.toNat.toUInt8 = b.any fun c => (c.toNat : Int) == i := by
  obtain ⟨n, rfl⟩ := Int.eq_ofNat_of_zero_le hi.1
  have hn : n < 256 := Int.ofNat_lt.mp hi.2
  have h8 : (UInt8.ofNat n).toNat = n := by rw [UInt8.toNat_ofNat']; exact Nat.mod_eq_of_lt hn
  rw [List.contains_toArray, Bool.eq_iff_iff, List.contains_iff_mem, List.any_eq_true]
  exact ⟨fun hm => ⟨_, hm, beq_iff_eq.mpr (congrArg (fun n : Nat => (n : Int)) h8)⟩, fun ⟨c, hc, he⟩ => (by rw [show (n : Int).toNat.toUInt8 = c from (congrArg UInt8.ofNat (Int.ofNat.inj (eq_of_beq he)).symm).trans UInt8.ofNat_toNat]; exact hc)⟩
theorem op_inB' : Op2 prog w Rep (compareOp .In) evInB := by
  intro A s X a b x y z Q E hh hu hX ra rb e hQ
  obtain ⟨i, b, e1, e2, e⟩ := on2_some e
  obtain ⟨t, rfl⟩ := ra.int? e1
  obtain ⟨u, rfl, hz⟩ := rb.bytes? e2
  split at e
  · rename_i hi
    cases e
    refine PySem.SeqRoads2.in_meets (typeIs_bytes _ _ _) FB.slot_bytes_contains FB.entry_bytes_contains (FB.args_bytes_contains_2 _ _) (meets_contains b.toArray u i t hi) ⟨_, rfl, ?_⟩
    have e := contains_int b hi
    rw [e]
    exact hQ _ s.heap s.toks (StaysIn.refl _) (.bool _)
  · cases e
end
section
variable {prog : Program} {w : World} {KK : Frag} {G : Gd KK} {Sy : Type} {R : StRep Sy} {f : Fn} {n : Nat}
noncomputable def stuckD {Γ S α : Type} : Γ → Dn S α := fun _ _ _ => .stuck
theorem sStuck {Γ : Type} {γ : Γ} {st : Stmt} : SndS prog w G R f n st (stuckD γ) := fun _ _ _ _ _ _ _ _ _ _ _ _ _ hS => absurd rfl hS
noncomputable def sExprD {Γ : Type} {S : Type} (F : Γ → Dn S V) : Γ → Dn S (Out × List V) := fun γ ρ σ => ((F γ) ρ σ).bind fun p => .ok ((.next, ρ), p.2)
theorem sExpr {Γ : Type} {γ : Γ} {e : Expr} {pos : Pos} {F : Γ → Den R V} (h : jW prog w G R f n e (F γ)) (hi : ∀ L cl, interactive (f.env L cl) = false := by intro _ _; rfl) (hs : ∀ L cl, swapsWith e none pos.line (f.env L cl) = pure false := by intro _ _; rfl) :
    SndS prog w G R f n (.Expr e pos) (sExprD F γ) := SndG.mk fun L cl A outer s ρ σ Q E hA W K => by
  refine wpAny_Expr_any (h.runS hA W W .refl K fun v σ₁ vv h₁ tk₁ e₁ W₁ _ S₁ r₁ K₁ => ?_) (hi _ _) (hs _ _)
  exact K₁.ok _ _ _ .next _ _ rfl W₁ S₁ trivial
theorem op_inB : Op2 prog w Rep (compareOp .In) evInB := op_inB'
theorem op_mul : Op2 prog w Rep (binaryOp .Mult) evMul := op_ii fun A s a b u v z Q E e hQ => by
  split at e
  · cases e
    rename_i hz
    exact mul_int (hQ _ _ fun _ _ => .int _ _) (by mul_fits)
  · cases e
theorem op_div : Op2 prog w Rep (binaryOp .FloorDiv) evDiv := op_ii fun A s a b u v z Q E e hQ => by
  split at e
  · cases e
    rename_i hz
    exact floordiv_int hz.1 (hQ _ _ fun _ _ => .int _ _) (.inl (PyProof.noPylong_small (by omega)))
  · cases e
end
noncomputable def onM {α : Type} (mc : MC) (x : V) (r : Res α) : Res α := bif isSelf mc x then r else .stuck
@[simp] theorem onM_self {α : Type} (mc : MC) (r : Res α) : onM mc (.ref mc.x) r = r := by simp [onM]
theorem onM_ne {α : Type} {mc : MC} {x : V} {r : Res α} (h : onM mc x r ≠ .stuck) : x = .ref mc.x ∧ r ≠ .stuck := by
  unfold onM at h
  cases e : isSelf mc x with
  | false => rw [e] at h; exact absurd rfl h
  | true => rw [e] at h; exact ⟨isSelf_eq e, h⟩
noncomputable def atN (pat : List UInt8) (p : Nat) : Nat := (pat.getD p 0).toNat
theorem atN_lt (pat : List UInt8) (p : Nat) : atN pat p < 256 := UInt8.toNat_lt _
theorem evItem_bytes {pat : List UInt8} {p : Nat} (h : p < pat.length) : evItem (.bytes pat) (.int p) = some (.int (atN pat p)) := by
  show (if 0 ≤ (p : Int) ∧ (p : Int) < (pat.length : Int) then some (V.int ((pat.getD (p : Int).toNat 0).toNat : Int)) else none).or _ = _
  rw [if_pos ⟨Int.natCast_nonneg p, Int.ofNat_lt.mpr h⟩]; rfl
noncomputable def flat1 : V → Bool
  | .none => true
  | .bool _ => true
  | .int _ => true
  | .bytes _ => true
  | .str _ => true
  | _ => false
noncomputable def flatT : V → Bool
  | .tup l => l.all flat1
  | v => flat1 v
theorem Rep.flat {X X' : List Addr} {h h' : Heap} {v : Value} {x : V} (r : Rep X h v x) (hx : flat1 x = true) : Rep X' h' v x := by
  cases r <;> first | exact .none | exact .bool _ | exact .int _ _ | exact .bytes _ _ (by assumption) | exact .str _ _ | cases hx
theorem RepL.flat {X X' : List Addr} {h h' : Heap} {vs : List Value} {l : List V} (r : RepL X h vs l) : l.all flat1 = true → RepL X' h' vs l :=
  r.ind (P := fun vs l => l.all flat1 = true → RepL X' h' vs l) (fun _ => .nil) fun hv _ ih ha => .cons (hv.flat (List.all_cons ▸ ha |> (Bool.and_eq_true _ _).mp).1) (ih (List.all_cons ▸ ha |> (Bool.and_eq_true _ _).mp).2)
theorem Rep.flatT {X : List Addr} {h h' : Heap} {v : Value} {x : V} (r : Rep X h v x) (hx : flatT x = true) (k : ∀ a o, h.get? a = some o → tupO o → h'.get? a = some o) : Rep X h' v x := by
  cases r with
  | tup ho hc hd hX hl hz => exact .tup (k _ _ ho ⟨hc, _, _, hd⟩) hc hd hX (hl.flat hx) hz
  | lst ho hc hd hX hl hz => cases hx
  | ref a => cases hx
  | none => exact .none
  | bool => exact .bool _
  | int => exact .int _ _
  | bytes _ _ hz => exact .bytes _ _ hz
  | str => exact .str _ _
theorem RepL.flatT {X : List Addr} {h h' : Heap} (k : ∀ a o, h.get? a = some o → tupO o → h'.get? a = some o) {vs : List Value} {l : List V} (r : RepL X h vs l) : l.all Mine.flatT = true → RepL X h' vs l :=
  r.ind (P := fun vs l => l.all Mine.flatT = true → RepL X h' vs l) (fun _ => .nil) fun hv _ ih ha => .cons (hv.flatT (List.all_cons ▸ ha |> (Bool.and_eq_true _ _).mp).1 k) (ih (List.all_cons ▸ ha |> (Bool.and_eq_true _ _).mp).2)
structure LRep (g : Heap) (τ : (Addr × List V) × List Value) (h : Heap) : Prop where
  obj : ∃ n, h.get? τ.1.1 = some { cls := .type "list", data := .seq τ.2.toArray n }
  con : RepL [τ.1.1] h τ.2 τ.1.2
  fl : τ.1.2.all flatT = true
  nb : g.get? τ.1.1 = none
  z : τ.1.2.length ≤ 4096
@[reducible] noncomputable def RL (g : Heap) : StRep (Addr × List V) where
  X := List Value
  rep := LRep g
  foot := fun τ => [τ.1.1]
  stable := fun {σ h h'} r k => by
    obtain ⟨⟨n, ho⟩, hc, hf, hn, hz⟩ := r
    exact ⟨⟨n, k _ _ ho (.inl (.head _))⟩, hc.flatT (fun a o e t => k a o e (.inr t)) hf, hf, hn, hz⟩
  live := fun {σ h} r a ha => by
    obtain ⟨⟨n, ho⟩, _⟩ := r
    rcases List.mem_singleton.mp ha with rfl
    rw [ho]; intro z; cases z
noncomputable def isRef (D : Addr) : V → Bool
  | .ref a => a == D
  | _ => false
@[simp] theorem isRef_ref (D : Addr) : isRef D (.ref D) = true := by simp [isRef]
theorem isRef_eq {D : Addr} {v : V} (h : isRef D v = true) : v = .ref D := by
  cases v <;> simp [isRef] at h
  rw [h]
section
variable {prog : Program} {w : World} {KK : Frag} {G : Gd KK} {f : Fn} {n : Nat}
theorem Wf.grown {L : Addr} {cl : Cx} {outer : List Env} {h h' : Heap} {ρ : List V} {σ : (RL G.g).T} {nn : Nat} {xv : Value} {u : V} (W : Wf G (RL G.g) (f.env L cl) f.vars outer h ρ σ)
    (ho : h.get? σ.1.1 = some { cls := .type "list", data := .seq σ.2.toArray nn }) (hs : Heap.SameBut σ.1.1 h h') (ho' : h'.get? σ.1.1 = some { cls := .type "list", data := .seq (σ.2.toArray.push xv) (nn + 1) })
    (ru : Rep [σ.1.1] h xv u) (hu : Mine.flatT u = true) (hz : σ.1.2.length ≤ 4000) :
    Wf G (RL G.g) (f.env L cl) f.vars outer h' ρ ((σ.1.1, σ.1.2 ++ [u]), σ.2 ++ [xv]) ∧ Stp (RL G.g) [L] h σ h' ((σ.1.1, σ.1.2 ++ [u]), σ.2 ++ [xv]) := by
  have k := hs.extBut
  have W0 : Wf G (Rx RU σ.1.1 (fun _ => True)) (f.env L cl) f.vars outer h ρ ((), ()) :=
    ⟨W.above, ⟨W.cal.base, W.cal.ff, W.cal.nf, trivial, ⟨_, ho, trivial⟩, fun z => nomatch z⟩, W.top, W.nsF, W.ns, W.apart, W.var⟩
  have hDL : σ.1.1 ≠ L := fun e => W.F_foot (e ▸ .head _)
  have hDl : σ.1.1 ≠ (f.env L cl).locals := fun e => W.apart (e ▸ .head _)
  have W1 := W0.other (h' := h') k (.inl (.head _)) (fun o v e z => by rw [ho] at e; cases e; cases z) hDL hDl (fun o e _ => ⟨_, ho', fun vs z => by cases z⟩) W.cal.rep.nb ⟨trivial, ⟨_, ho', trivial⟩, fun z => nomatch z⟩
  have kp : Keep [σ.1.1] h h' := .of_ext k (.head _)
  have rk : ∀ {a : Value} {y : V}, Rep [σ.1.1] h a y → Rep [σ.1.1] h' a y := fun r => r.keep kp (.refl _ _) fun c hc => .inl hc
  have rkl : ∀ {a : List Value} {y : List V}, RepL [σ.1.1] h a y → RepL [σ.1.1] h' a y := fun r => r.keep kp (.refl _ _) fun c hc => .inl hc
  refine ⟨⟨W1.above, ⟨W1.cal.base, W1.cal.ff, W1.cal.nf, ⟨nn + 1, ?_⟩, (rkl W.cal.rep.con).append (.cons (rk ru) .nil), ?_, W.cal.rep.nb, ?_⟩, W1.top, W1.nsF, W1.ns, W1.apart, W1.var⟩, kp.mono fun b hb => .tail _ hb, .refl _ _⟩
  · rw [ho']; simp
  · simp [W.cal.rep.fl, hu]
  · show (σ.1.2 ++ [u]).length ≤ 4096
    rw [List.length_append]; simp; omega
noncomputable def sAppD {Γ : Type} (i : Nat) (j : Nat) : Γ → Dn (Addr × List V) (Out × List V) := fun γ ρ σ => (getv ρ i).bind fun v => (getv ρ j).bind fun u => if isRef σ.1 v = true ∧ Mine.flatT u = true ∧ σ.2.length ≤ 4000 then .ok ((.next, ρ), (σ.1, σ.2 ++ [u])) else .stuck
@[simp] theorem sAppD_ap {Γ : Type} (i : Nat) (j : Nat) (γ : Γ) (ρ : List V) (σ : Addr × List V) : (sAppD i j) γ ρ σ = (getv ρ i).bind fun v => (getv ρ j).bind fun u => if isRef σ.1 v = true ∧ Mine.flatT u = true ∧ σ.2.length ≤ 4000 then .ok ((.next, ρ), (σ.1, σ.2 ++ [u])) else .stuck := rfl
theorem sApp {Γ : Type} {γ : Γ} {x y : Str} {np np2 apos pos pos' : Pos} (i j : Nat) (hF : FOk f) (hi : f.vars[i]? = some x := by rfl) (hj : f.vars[j]? = some y := by rfl) (hline : (apos.endLine == pos.line) = true := by rfl)
    (hb : ∀ env, attributeBase (.Name x np) "append" env (eval (.Name x np) env) = eval (.Name x np) env := by intro; rfl)
    (hform : ∀ env, methodCallForm (([.Name y np2] : List Expr).length + ([] : List Keyword).length) (backTo pos (starEach [.Name y np2] env)) (backToKw pos (keywordEach [] env)) = true := by intro; rfl)
    (h1 : ∀ env, starEach [.Name y np2] env = (false, eval (.Name y np2) env) :: starEach [] env := by intro; rfl) (h2 : ∀ env, ((backTo pos (starEach [.Name y np2] env)).any fun x => x.1) = false := by intro; rfl)
    (hit : ∀ L cl, interactive (f.env L cl) = false := by intro _ _; rfl) (hs : ∀ L cl, swapsWith (.Call (.Attribute (.Name x np) "append" apos) [.Name y np2] [] pos) none pos'.line (f.env L cl) = pure false := by intro _ _; rfl) :
    SndS prog w G (RL G.g) f n (.Expr (.Call (.Attribute (.Name x np) "append" apos) [.Name y np2] [] pos) pos')
      (sAppD i j γ) := SndG.mk fun L cl A outer s ρ σ Q E hA W K => by
  simp only [sAppD_ap] at K
  refine wpAny_Expr_any ?_ (hit _ _) (hs _ _)
  cases hg : getv ρ i with
  | err => exact absurd hg getv_err
  | stuck => rw [hg] at K; exact absurd rfl K.ns
  | ok v =>
  cases hg2 : getv ρ j with
  | err => exact absurd hg2 getv_err
  | stuck => rw [hg, hg2] at K; exact absurd rfl K.ns
  | ok u =>
  simp only [hg, hg2, Res.bind_ok] at K
  by_cases hc : isRef σ.1.1 v = true ∧ Mine.flatT u = true ∧ σ.1.2.length ≤ 4000
  · simp only [if_pos hc] at K
    obtain ⟨c1, c2, c3⟩ := hc
    have := isRef_eq c1
    subst this
    obtain ⟨⟨nn, ho⟩, hcon, hfl, hnb, hz⟩ := W.cal.rep
    refine call_attr (hb _) (hform _) hline (local_ hF hi W hg fun vv r => ?_)
    cases r
    intro pl
    refine getMethod_list_append ho rfl rfl ?_
    refine callWith_builtin (h2 _) ?_
    have hst : backTo pos (starEach [.Name y np2] (f.env L cl)) = (false, eval (.Name y np2) (f.env L cl)) :: backTo pos (starEach [] (f.env L cl)) := by rw [h1]; rfl
    rw [hst]
    refine evalArgs_plain ?_
    rw [← hst]
    have hl : SndL prog w G (RL G.g) f n pos [.Name y np2] _ := jC (γ := γ) (jA j hF hj) jK
    refine hl L cl A outer s ρ σ _ _ hA W (fun v σ' vv h' tk e W' S' r' => ?_) (fun _ _ _ e => ?_) ?_
    · simp only [lConsD_ap, eNameD_ap, lNilD_ap, hg2, Res.bind_ok, Res.ok.injEq, Prod.mk.injEq] at e
      obtain ⟨rfl, e⟩ := e
      cases r' with
      | cons ru rn =>
        cases rn
        rename_i xv
        obtain ⟨⟨n2, ho2⟩, hcon2, hfl2, hnb2, hz2⟩ := W'.cal.rep
        have eD : σ'.1.1 = σ.1.1 := by rw [e]
        have el : σ'.1.2 = σ.1.2 := by rw [e]
        rw [← eD]
        refine append_at (s := ⟨_, _, _, _, _⟩) ho2 (fun h'' hs ho3 => ?_) ?_
        · obtain ⟨W3, S3⟩ := Wf.grown W' ho2 hs ho3 ru c2 (by rw [el]; exact c3)
          refine K.ok .next ρ ((σ'.1.1, σ'.1.2 ++ [u]), σ'.2 ++ [xv]) .next h'' tk ?_ W3 (S'.mono.trans W' S3) trivial
          rw [eD, el]
        · have := hcon2.length
          rw [sizeLine_eq, List.size_toArray]; omega
    · simp only [lConsD_ap, eNameD_ap, lNilD_ap, hg2, Res.bind_ok] at e; cases e
    · simp only [lConsD_ap, eNameD_ap, lNilD_ap, hg2, Res.bind_ok]; intro e; cases e
  · simp only [if_neg hc] at K; exact absurd rfl K.ns
end
theorem ff_base {B₀ B h : Heap} (k : B₀.StaysIn B) : ∀ {l : List Env}, h.FunFrames B l → h.FunFrames B₀ l
  | [], _ => trivial
  | _ :: _, ⟨hk, ⟨L, o, hf, hn, ho, hd⟩, hr⟩ => ⟨hk, ⟨L, o, hf, (by
      cases q : B₀.get? L with
      | none => rfl
      | some o' => rw [k _ _ q] at hn; cases hn), ho, hd⟩, ff_base k hr⟩
noncomputable def rdF (h : Heap) (fl : Flow) (v : V) : Prop := match fl with
  | .ret vv => Rep [] h vv v
  | _ => v = .none
section
variable (prog : Program) (w : World) {KK : Frag} (G : Gd KK) {Sy : Type} (R : StRep Sy) (f : Fn) (n : Nat)
noncomputable def SndW (b : List Stmt) (F : List V → Sy → Res V) : Prop :=
  ∀ (L : Addr) (cl : Cx) (A : Around) (outer : List Env) (s : Shared) (ρ : List V) (σ : R.T) (Q : Flow → Shared → Prop) (E : Value → Shared → Prop),
    AOk A outer n → Wf G R (f.env L cl) f.vars outer s.heap ρ σ →
    (∀ v fl h' tk, F ρ σ.1 = .ok v → G.g.StaysIn h' → h'.FunFrames G.g outer → Keep (L :: R.foot σ) s.heap h' → rdF h' fl v → Q fl { s with heap := h', toks := tk }) →
    (∀ e h' tk, F ρ σ.1 = .err → Err G R outer L [L] s.heap σ e h' → E e { s with heap := h', toks := tk }) →
    F ρ σ.1 ≠ .stuck → wpAny (model prog w) A (execs b (f.env L cl)) Q E s
end
section
variable {prog : Program} {w : World} {KK : Frag} {G : Gd KK} {Sy : Type} {R : StRep Sy} {f : Fn} {n : Nat}
theorem rdO_rdF {X : List Addr} {h : Heap} {fl : Flow} {o : Out} (r : rdO X h fl o) : rdF h fl (retOf o) := by
  cases o <;> cases fl <;> first | exact r.elim | rfl | exact Rep.mono (X' := []) (fun a ha => absurd ha List.not_mem_nil) r
noncomputable def w_of_BD {Γ : Type} {S : Type} (F : Γ → Dn S (Out × List V)) : Γ → List V → S → Res V := fun γ ρ σ => ((F γ) ρ σ).bind fun p => .ok (retOf p.1.1)
theorem w_of_B {Γ : Type} {γ : Γ} {b : List Stmt} {F : Γ → Den R (Out × List V)} (hb : SndB prog w G R f n b (F γ)) : SndW prog w G R f n b (w_of_BD F γ) := by
  intro L cl A outer s ρ σ Q E hA W hQ hE hS
  refine hb L cl A outer s ρ σ Q E hA W (fun o ρ' σ' fl h' tk e W' S r => ?_) (fun e h' tk q x => hE e h' tk (by show ((F γ) ρ σ.1).bind _ = _; rw [q]; rfl) x) (Res.ne_stuck_left hS)
  exact hQ (retOf o) fl h' tk (by show ((F γ) ρ σ.1).bind _ = _; rw [e]; rfl) W'.cal.base W'.cal.ff S.keep (rdO_rdF r)
noncomputable def onNextW {S : Type} (p : (Out × List V) × S) (k : List V → S → Res V) : Res V := match p.1.1 with
  | .next => k p.1.2 p.2
  | o => .ok (retOf o)
noncomputable def w_consD {Γ : Type} {S : Type} (F : Γ → Dn S (Out × List V)) (Fs : Γ → List V → S → Res V) : Γ → List V → S → Res V := fun γ ρ σ => ((F γ) ρ σ).bind fun p => onNextW p (Fs γ)
@[simp] theorem w_consD_ap {Γ : Type} {S : Type} (F : Γ → Dn S (Out × List V)) (Fs : Γ → List V → S → Res V) (γ : Γ) (ρ : List V) (σ : S) : (w_consD F Fs) γ ρ σ = ((F γ) ρ σ).bind fun p => onNextW p (Fs γ) := rfl
structure KontW {KK : Frag} (G : Gd KK) {Sy : Type} (R : StRep Sy) (L : Addr) (outer : List Env) (h₀ : Heap) (σ : R.T) (s : Shared) (r : Res V) (Q : Flow → Shared → Prop) (E : Value → Shared → Prop) : Prop where
  ok : ∀ v fl h' tk, r = .ok v → G.g.StaysIn h' → h'.FunFrames G.g outer → Keep (L :: R.foot σ) h₀ h' → rdF h' fl v → Q fl { s with heap := h', toks := tk }
  er : ∀ e h' tk, r = .err → Err G R outer L [L] h₀ σ e h' → E e { s with heap := h', toks := tk }
  ns : r ≠ .stuck
theorem w_on {L : Addr} {cl : Cx} {A : Around} {outer : List Env} {s : Shared} {ρ ρ₁ : List V} {σ σ₁ : R.T} {Q : Flow → Shared → Prop} {E : Value → Shared → Prop} {rest : List Stmt} {F : List V → Sy → Res V} {o : Out} {fl : Flow} {h₁ : Heap} {tk : Tok}
    (hs : SndW prog w G R f n rest F) (hA : AOk A outer n) (W : Wf G R (f.env L cl) f.vars outer s.heap ρ σ) (W₁ : Wf G R (f.env L cl) f.vars outer h₁ ρ₁ σ₁) (S₁ : Stp R [L] s.heap σ h₁ σ₁) (r : rdO (R.foot σ₁) h₁ fl o)
    {r' : Res V} (K : KontW G R L outer s.heap σ s r' Q E) (e : r' = onNextW ((o, ρ₁), σ₁.1) F) :
    (match fl with | .next => wpAny (model prog w) A (execs rest (f.env L cl)) Q E { s with heap := h₁, toks := tk } | f => Q f { s with heap := h₁, toks := tk }) := by
  subst e
  cases o <;> cases fl <;> first | exact r.elim | skip
  · refine hs L cl A outer ⟨_, _, _, _, _⟩ ρ₁ σ₁ Q E hA W₁ (fun v fl h' tk' q b ff k rd => K.ok v fl h' tk' q b ff (S₁.keep.trans (X' := L :: R.foot σ₁) (fun b hb => ?_) k) rd) (fun e' h' tk' q x => K.er e' h' tk' q (x.after S₁ W)) K.ns
    rcases List.mem_cons.mp hb with rfl | hb
    · exact .inl (.head _)
    · exact (S₁.grow b hb).imp (.tail _) id
  · exact K.ok _ _ h₁ tk rfl W₁.cal.base W₁.cal.ff S₁.keep (rdO_rdF r)
  · exact K.ok _ _ h₁ tk rfl W₁.cal.base W₁.cal.ff S₁.keep (rdO_rdF r)
  · exact K.ok _ _ h₁ tk rfl W₁.cal.base W₁.cal.ff S₁.keep (rdO_rdF r)
theorem w_cons {Γ : Type} {γ : Γ} {st : Stmt} {b : List Stmt} {F : Γ → Den R (Out × List V)} {Fs : Γ → List V → Sy → Res V} (h : SndS prog w G R f n st (F γ)) (hs : SndW prog w G R f n b (Fs γ)) :
    SndW prog w G R f n (st :: b) (w_consD F Fs γ) := by
  intro L cl A outer s ρ σ Q E hA W hQ hE hS
  refine wpAny_execs_cons (h L cl A outer s ρ σ _ _ hA W (fun o ρ₁ σ₁ fl h₁ tk e W₁ S₁ r => ?_) (fun e h' tk q x => hE e h' tk (by show ((F γ) ρ σ.1).bind _ = _; rw [q]; rfl) x) (Res.ne_stuck_left hS))
  have e1 : w_consD F Fs γ ρ σ.1 = onNextW ((o, ρ₁), σ₁.1) (Fs γ) := by show ((F γ) ρ σ.1).bind _ = _; rw [e]; rfl
  have K := w_on (tk := tk) hs hA W W₁ S₁ r ⟨hQ, hE, hS⟩ e1
  cases fl <;> exact K
theorem glob_base {x : Str} {pos : Pos} {v : Value} {L : Addr} {cl : Cx} {A : Around} {s : Shared} {Q : Value → Shared → Prop} {E : Value → Shared → Prop} (hb : G.g.StaysIn s.heap) (e : nsIn KK mainGlobals x = some (some v)) (h : Q v s)
    (hk : f.cs.kind = .function) (hx : f.cs.names.lookup x = some .globalImplicit) (hd : (x == ("__debug__" : Str)) = false) : wpAny (model prog w) A (eval (.Name x pos) (f.env L cl)) Q E s :=
  Name_function_global hk hx (loadGlobal_global (env := f.env L cl) (G.top.g.keeps hb) (mg_of G.inK G.top.g e) h) hd
noncomputable def caughtD {S : Type} (t : Str) (Fs : List V → S → Res V) (r : Res ((Out × List V) × S)) : Res V := match r with
  | .ok p => onNextW p Fs
  | .err => .ok (.str t)
  | .stuck => .stuck
noncomputable def w_tryD {Γ : Type} {S : Type} (t : Str) (F : Γ → Dn S (Out × List V)) (Fs : Γ → List V → S → Res V) : Γ → List V → S → Res V := fun γ ρ σ => caughtD t (Fs γ) ((F γ) ρ σ)
@[simp] theorem w_tryD_ap {Γ : Type} {S : Type} (t : Str) (F : Γ → Dn S (Out × List V)) (Fs : Γ → List V → S → Res V) (γ : Γ) (ρ : List V) (σ : S) : (w_tryD t F Fs) γ ρ σ = caughtD t (Fs γ) ((F γ) ρ σ) := rfl
theorem w_try {Γ : Type} {γ : Γ} {body rest : List Stmt} {x t : Str} {k : Nat} {np cp rp hp tp : Pos} {F : Γ → Den R (Out × List V)} {Fs : Γ → List V → Sy → Res V} (O : LuaOk KK) (hb : SndB prog w G R f n body (F γ)) (hs : SndW prog w G R f n rest (Fs γ))
    (hg : nsIn KK mainGlobals x = some (some (.ref 31)) := by rfl) (hk : f.cs.kind = .function := by rfl) (hx : f.cs.names.lookup x = some .globalImplicit := by decide +kernel) (hd : (x == ("__debug__" : Str)) = false := by decide +kernel) :
    SndW prog w G R f n (.Try body [.ExceptHandler (some (.Name x np)) none [.Return (some (.Constant (.str t) k cp)) rp] hp] [] [] tp :: rest) (w_tryD t F Fs γ) := by
  intro L cl A outer s ρ σ Q E hA W hQ hE hS
  refine wpAny_execs_cons (wpAny_Try_except ?_)
  refine hb L cl A outer s ρ σ _ _ hA W (fun o ρ₁ σ₁ fl h₁ tk e W₁ S₁ r => ?_) (fun e h' tk q x => ?_) fun z => hS (by show caughtD t (Fs γ) ((F γ) ρ σ.1) = _; rw [z]; rfl)
  · have e1 : w_tryD t F Fs γ ρ σ.1 = onNextW ((o, ρ₁), σ₁.1) (Fs γ) := by show caughtD t (Fs γ) ((F γ) ρ σ.1) = _; rw [e]; rfl
    have K := w_on (tk := tk) hs hA W W₁ S₁ r ⟨hQ, hE, hS⟩ e1
    cases fl <;> first | exact wpAny_execs_nil K | exact K
  · have e1 : w_tryD t F Fs γ ρ σ.1 = .ok (.str t) := by show caughtD t (Fs γ) ((F γ) ρ σ.1) = _; rw [q]; rfl
    replace hQ := fun h' tk' b ff k => hQ (.str t) (.ret (.str t tk')) h' (tk' + 1) e1 b ff k (.str t tk')
    clear hE hS hs hb e1 q
    obtain ⟨⟨a, B, rfl, hf, hgB, hc⟩, hkp⟩ := x
    obtain ⟨fe, o, ho, he⟩ := W.top
    subst ho
    show wpAny _ _ (noteFrame (.ref a) (f.env L cl)) _ _ _
    rw [noteFrame_frame he.symm]
    refine Fly.noted (s := ⟨_, _, _, _, _⟩) hA.frames he hf fun h₁ a0 b1 f1 t1 u1 => ?_
    refine wpAny_landsW (s := ⟨_, _, _, _, _⟩) ⟨b1, hf.2.1, f1, t1⟩ fun h₂ fl2 u2 => ?_
    refine wpAny_handleBy_cons (codeAny_handlers_test (glob_base (fun b o z => fl2.1 b o (hgB b o z)) hg ?_ hk hx hd)) (by intro z; cases z)
    obtain @⟨nm, q, bs, sn, sub, ab, col, dd, k0, k1, k2, k3, k5, hC⟩ := O.cls
    obtain ⟨oe, vs, hoe, hcls, hdat, h0⟩ := fl2.first
    refine wpAny_excMatches_sub_self (fl2.1 _ _ (hgB _ _ (G.inK _ _ hC))) hoe hcls (by decide +kernel) (codeAny_handlers_suite ?_)
    refine lands_againW (s := ⟨_, _, _, _, _⟩) fl2 fun h₃ fl3 u3 => ?_
    refine wpAny_execs_cons (wpAny_Return_some ?_)
    show wpAny _ _ (mkText t) _ _ _
    refine wpAny_mkText ?_
    refine hQ h₃ _ (fun b o z => fl3.1 b o (hgB b o z)) (ff_base hgB fl3.2.2.1) ?_
    exact keep_on hkp (fun b hb _ _ _ z => z hb) (fun b o ho hb hd => hc b o ho (fun z => hb (.tail _ z)) hd) fl3.1 ((u1.trans u2).trans u3)
theorem fs_ofW {fa : Addr} {oc : Value} {od : Option Addr} {osl : Array (Option Value)} {params : Arguments} {body : List Stmt} {dV kV doc pm ct ccd : Value} {an : Option Addr} {nm cn : Str} {cs : Scope} (vars : List Str) {F : List V → Unit → Res V} {F' : List V → Unit → Res (V × Unit)} (k : Nat)
    (ho : KK.lookup fa = some ⟨oc, od, .func (fnOf nm cn params body cs dV kV doc pm an ccd ct), osl⟩) (hcd : codeIn KK ccd cn = true) (hF : FOk ⟨cn, cs, fa, ccd, vars, false⟩)
    (hb : FOk ⟨cn, cs, fa, ccd, vars, false⟩ → SndW prog w G RU ⟨cn, cs, fa, ccd, vars, false⟩ n body F)
    (hbind : ∀ vs : List Value, vs.length = k → bindArgs (fnOf nm cn params body cs dV kV doc pm an ccd ct) ⟨vs, []⟩ = pure ((vars.take k).zip vs))
    (hkind : ∀ L, ∀ x ∈ vars.take k, cs.names.lookup x = some .local ∨ (cs.names.lookup x = some .cell ∧ ((cellsFrom (L + 1) cs.names []).lookup x).isSome = true)) (hlen : k ≤ vars.length)
    (hco : cs.isCoroutine = false) (hgen : cs.isGenerator = false)
    (hw : ∀ xs, F' xs () ≠ .stuck → xs.length = k ∧ ((F (xs ++ List.replicate (vars.length - k) .undef) ()).bind fun v => .ok (v, ())) = F' xs ()) :
    FS prog w G RU fa (n + 1) F' := by
  have hb := hb hF
  have hnd := hF.nd
  have hk := hF.kind
  intro A l s σ vs xs Q E hA hc hr hQ hE hS
  obtain ⟨hxk, hw⟩ := hw xs hS
  have hvk : vs.length = k := hr.length.trans hxk
  refine wpAny_call (codeAny_call_cells (fd := fnOf nm cn params body cs dV kV doc pm an ccd ct) (body := body) (binds := (vars.take k).zip vs) (by have := hA.depth; omega) (hc.base _ _ (G.inK _ _ ho)) rfl (G.top.nolimit.keeps hc.base) (codeRec_of (fun b o e => hc.base b o (G.inK b o e)) hcd) rfl (hbind vs hvk) rfl (fun x hx => hkind _ _ (List.of_mem_zip hx).1) (fun s₁ X => ?_) hco hgen hk)
  obtain ⟨h₁, tk₁, rfl, hk₁⟩ := X.done
  let f : Fn := ⟨cn, cs, fa, ccd, vars, false⟩
  let cl : Cx := ⟨cellsFrom (s.heap.objs.size + 1) cs.names [], 0⟩
  have eenv : callEnvC (fnOf nm cn params body cs dV kV doc pm an ccd ct) s.heap.objs.size fa = f.env s.heap.objs.size cl := rfl
  rw [eenv] at X ⊢
  have hns : h₁.Ns s.heap.objs.size (bindL (cs.names.lookup ·) ((vars.take k).zip vs) fun _ => none) := X.toInCall.ns
  have hW : Wf G RU (f.env s.heap.objs.size cl) f.vars (f.env s.heap.objs.size cl :: l) h₁ (xs ++ List.replicate (f.vars.length - k) .undef) σ :=
    entered (f := f) rfl rfl hc hr hxk hlen hnd hk (hkind _) hns hk₁ X.cell X.above
  have kk : ∀ {h' : Heap}, Keep [s.heap.objs.size] h₁ h' → Keep [] s.heap h' := fun {h'} kp b o e hb => kp b o (hk₁ b o e) fun z => by
    rcases List.mem_singleton.mp z with rfl
    exact absurd (Heap.lt_size e) (Nat.lt_irrefl _)
  refine hb s.heap.objs.size cl (A.deeper (f.env s.heap.objs.size cl)) (f.env s.heap.objs.size cl :: l) ⟨h₁, s.gens, s.drawn, tk₁, s.os⟩ _ σ _ _ (AOk.deeper hA) hW (fun v fl h' tk e hbs ff kp rd => ?_) (fun e h' tk e' x => ?_) (fun e => hS (by rw [← hw]; rw [show F (xs ++ List.replicate (vars.length - k) .undef) () = .stuck from e]; rfl))
  · have e2 : F' xs σ.1 = .ok (v, ()) := by
      rw [← hw]; rw [show F (xs ++ List.replicate (vars.length - k) .undef) () = .ok v from e]; rfl
    have hc' : Cal G RU l h' σ := ⟨hbs, ff.2.2, fun e he b hb => fun z => (nomatch z), trivial⟩
    cases fl with
    | ret vv => exact hQ v σ vv h' tk e2 hc' (kk kp) (.refl _ _) rd
    | next => cases rd; exact hQ .none σ .none h' tk e2 hc' (kk kp) (.refl _ _) .none
    | cont => cases rd; exact hQ .none σ .none h' tk e2 hc' (kk kp) (.refl _ _) .none
    | brk => cases rd; exact hQ .none σ .none h' tk e2 hc' (kk kp) (.refl _ _) .none
  · obtain ⟨⟨a, B, rfl, hf, hg, hcov⟩, hkp⟩ := x
    refine Fly.left (s := ⟨h', _, _, tk, _⟩) (AOk.deeper hA).frames rfl hf fun h₂ a0 b2 f2 t2 u2 => hE _ h₂ tk (by rw [← hw]; rw [show F (xs ++ List.replicate (vars.length - k) .undef) () = .err from e']; rfl) ?_
    have hcov' : ∀ b o, s.heap.get? b = some o → b ∉ RU.foot σ → (∃ vs, o.data = .fields vs) → B.get? b = some o := fun b o e hb hd => hcov b o (hk₁ b o e) hb hd
    exact ⟨⟨a, B, a0, rfl, b2, hf.2.1, f2, t2, hg, hcov'⟩, keep_on (kk hkp) (fun b hb _ _ _ z => z hb) hcov' b2 u2⟩
end
section
variable {prog : Program} {w : World} {KK : Frag} {G : Gd KK} {Sy Sy' : Type} {R : StRep Sy} {R' : StRep Sy'} {f : Fn} {n : Nat} {L : Addr} {outer : List Env} {e : Value} {h₀ h h' : Heap} {σ : R.T} {τ : R'.T}
theorem Err.down (k : Keep (L :: R.foot σ) h₀ h) (g : ∀ d ∈ R'.foot τ, d ∈ R.foot σ ∨ h₀.get? d = none) (hL : ∀ o vs, h₀.get? L = some o → o.data ≠ .fields vs) (x : Err G R' outer L [L] h τ e h') : Err G R outer L [L] h₀ σ e h' := by
  obtain ⟨⟨a, B, he, hf, hg, hc⟩, hk⟩ := x
  refine ⟨⟨a, B, he, hf, hg, fun b o ho hb hd => ?_⟩, k.trans (X' := L :: R'.foot τ) (fun b hb => ?_) hk⟩
  · obtain ⟨vs, hd'⟩ := hd
    obtain ⟨sl, q, z⟩ := k b o ho fun z => (List.mem_cons.mp z).elim (fun q => hL o vs (q ▸ ho) hd') hb
    have q : _ = some o := (z ⟨vs, hd'⟩) ▸ q
    exact hc b o q (fun z => (g b z).elim hb fun y => by rw [y] at ho; cases ho) ⟨vs, hd'⟩
  · rcases List.mem_cons.mp hb with rfl | hb
    · exact .inl (.head _)
    · exact (g b hb).imp (.tail _) id
theorem Wf.noRec {L : Addr} {cl : Cx} {vars : List Str} {ρ : List V} (W : Wf G R (f.env L cl) vars outer h ρ σ) : ∀ o vs, h.get? L = some o → o.data ≠ .fields vs := by
  obtain ⟨m, o, es, ep, ho, hd, _⟩ := W.frame
  intro o' vs e q; rw [ho] at e; cases e; rw [hd] at q; cases q
noncomputable def outL (p : (Out × List V) × (Addr × List V)) : Res V := match p.1.1 with
  | .ret v => if isRef p.2.1 v = true then .ok (.lst p.2.2) else .stuck
  | _ => .stuck
theorem w_newL {x y : Str} {px py tp1 lp vp tp2 pos : Pos} {kd kd2 k0 : Nat} {z : Int} {rest : List Stmt} {Fr : Den (RL G.g) (Out × List V)} {F : List V → Unit → Res V} (i j : Nat) (hF : FOk f) (hrest : SndB prog w G (RL G.g) f n rest Fr)
    (hconv : ∀ ρ, F ρ () ≠ .stuck → ∀ D, (Fr ((ρ.set j (.int z)).set i (.ref D)) (D, [])).bind outL = F ρ ())
    (hi : f.vars[i]? = some x := by rfl) (hj : f.vars[j]? = some y := by rfl) (hk1 : f.cs.names.lookup x = some .local := by decide +kernel) (hk2 : f.cs.names.lookup y = some .local := by decide +kernel) (hC : f.isC = false := by rfl)
    (hsw : ∀ env, swapsWithSole [.Tuple [.Name x px, .Name y py] kd tp1] (.Tuple [.List [] lp, .Constant (.int z) k0 vp] kd2 tp2) pos.line env = pure false := by intro; rfl)
    (hw : ∀ L cl, swappedStores [.Tuple [.Name x px, .Name y py] kd tp1] (.Tuple [.List [] lp, .Constant (.int z) k0 vp] kd2 tp2) (f.env L cl) = pure (some [x, y]) := by intro _ _; rfl) :
    SndW prog w G RU f n (.Assign [.Tuple [.Name x px, .Name y py] kd tp1] (.Tuple [.List [] lp, .Constant (.int z) k0 vp] kd2 tp2) pos :: rest) F := by
  intro L cl A outer s ρ σ Q E hA W hQ hE hS
  have hfr : s.heap.get? s.heap.objs.size = none := by
    cases q : s.heap.get? s.heap.objs.size with
    | none => rfl
    | some o => exact absurd (Heap.lt_size q) (Nat.lt_irrefl _)
  refine wpAny_execs_cons (Assign_Tuple_swapped (Tuple_ ?_) (hsw _) (hw _ _))
  have hst : ∀ env, starEach [.List [] lp, .Constant (.int z) k0 vp] env = (false, eval (.List [] lp) env) :: starEach [.Constant (.int z) k0 vp] env := by intro; rfl
  rw [hst]
  refine spliced_cons (List_ (spliced_nil (wpAny_newList ?_ (by rw [sizeLine_eq]; exact Nat.le_of_ble_eq_true rfl))))
  have st := StaysIn.push s.heap { cls := .type "list", data := .seq (#[] : Array Value) }
  have Wa : Wf G (Rx RU s.heap.objs.size (fun _ => True)) (f.env L cl) f.vars outer (s.heap.push { cls := .type "list", data := .seq (#[] : Array Value) }) ρ σ := W.aside st hfr ⟨_, Heap.get?_push_size _ rfl, trivial⟩
  have W1 : Wf G (RL G.g) (f.env L cl) f.vars outer (s.heap.push { cls := .type "list", data := .seq (#[] : Array Value) }) ρ ((s.heap.objs.size, []), []) :=
    ⟨Wa.above, ⟨Wa.cal.base, Wa.cal.ff, Wa.cal.nf, ⟨0, Heap.get?_push_size _ rfl⟩, .nil, rfl, Heap.StaysIn.fresh W.cal.base, Nat.zero_le _⟩, Wa.top, Wa.nsF, Wa.ns, Wa.apart, Wa.var⟩
  have hl : SndL prog w G (RL G.g) f n tp2 [.Constant (.int z) k0 vp] _ := jC (γ := ()) jG jK
  refine hl L cl A outer ⟨_, _, _, _, _⟩ ρ ((s.heap.objs.size, []), []) _ _ hA W1 (fun v τ vv h2 tk2 e2 W2 S2 r2 => ?_) (fun _ _ _ e => nomatch e) (fun e => nomatch e)
  simp only [lConsD_ap, lNilD_ap, eIntD_ap, listD_ap, eNameD_ap, Res.bind_ok, Res.ok.injEq, Prod.mk.injEq] at e2
  obtain ⟨rfl, e2⟩ := e2
  have hD : τ.1.1 = s.heap.objs.size := by rw [← e2]
  refine wpAny_newTuple ?_ (by have := r2.length; rw [sizeLine_eq, List.length_cons, this]; exact Nat.le_of_ble_eq_true rfl)
  have hvl := r2.length
  have stT := StaysIn.push h2 { cls := .type "tuple", data := .seq (Value.ref s.heap.objs.size :: vv).toArray }
  have W3 := W2.stays stT
  have rL : RepL ((RL G.g).foot τ) (h2.push { cls := .type "tuple", data := .seq (Value.ref s.heap.objs.size :: vv).toArray }) (Value.ref s.heap.objs.size :: vv) [.ref s.heap.objs.size, .int z] := .cons (.ref _) (r2.keep (Keep.of_stays (X := []) stT) (.refl _ _) fun _ hb => nomatch hb)
  have hsz : ([x, y] : List Str).length = (Value.ref s.heap.objs.size :: vv).toArray.size := by simp [hvl]
  rw [hsz]
  refine wpAny_unpackItems_tuple (s := ⟨_, _, _, _, _⟩) hA.handled ⟨_, Heap.get?_push_size _ rfl, rfl, 0, rfl⟩ fun h4 ex => ?_
  have st4 := StaysIn.of_ext ex
  have W4 := W3.stays st4
  have em : (([x, y] : List Str).reverse.map fun n => bindName (f.env L cl) n) = ([(y, j), (x, i)] : List (Str × Nat)).map fun t => (fun x v => bindName (f.env L cl) x v) t.1 := rfl
  rw [em]
  refine store_all hF hC (fun x v => bindName (f.env L cl) x v) (fun s x v Q q => bindName_ q) [(y, j), (x, i)] _ [.int z, .ref s.heap.objs.size] ρ τ ⟨_, _, _, _, _⟩ _ (fun t ht => ?_) (fun t ht => ?_) rfl ?_ W4 fun h5 tk5 W5 S5 => ?_
  · simp only [List.mem_cons, List.not_mem_nil, or_false] at ht
    rcases ht with rfl | rfl
    · exact hj
    · exact hi
  · simp only [List.mem_cons, List.not_mem_nil, or_false] at ht
    rcases ht with rfl | rfl
    · exact hk2
    · exact hk1
  · exact (rL.keep (Keep.of_stays (X := (RL G.g).foot τ) st4) (.refl _ _) fun b hb => .inl hb).reverse
  · have hcv := hconv ρ hS s.heap.objs.size
    have eτ : Fr ((ρ.set j (.int z)).set i (.ref s.heap.objs.size)) (s.heap.objs.size, []) = Fr (setAll ρ [j, i] [.int z, .ref s.heap.objs.size]) τ.1 := by rw [e2]; rfl
    rw [eτ] at hcv
    have S25 : Stp (RL G.g) [L] h2 τ h5 τ := ((Stp.of_stays stT).trans W3 (Stp.of_stays st4)).trans W4 S5
    have S15 : Stp (RL G.g) [L] (s.heap.push { cls := .type "list", data := .seq (#[] : Array Value) }) ((s.heap.objs.size, []), []) h5 τ := S2.mono.trans W2 S25
    have k5 : Keep [L] s.heap h5 := fun b o ho hb => S15.keep b o (st b o ho) fun q => by
      rcases List.mem_cons.mp q with q | q
      · exact hb (q ▸ .head _)
      · rcases List.mem_singleton.mp q with rfl
        rw [hfr] at ho; cases ho
    have gr : ∀ d ∈ (RL G.g).foot τ, d ∈ RU.foot σ ∨ s.heap.get? d = none := fun d hd => by
      rcases List.mem_singleton.mp hd with rfl
      exact .inr (hD.symm ▸ hfr)
    refine hrest L cl A outer ⟨_, _, _, _, _⟩ _ τ _ _ hA W5 (fun o ρ' τ' fl h6 tk6 e6 W6 S6 r6 => ?_) (fun e' h6 tk6 e6 x6 => ?_) (fun q => ?_)
    · rw [show Fr (setAll ρ [j, i] [.int z, .ref s.heap.objs.size]) τ.1 = _ from e6] at hcv
      have hcv : outL ((o, ρ'), τ'.1) = F ρ () := hcv
      cases o with
      | ret v =>
        by_cases hr : isRef τ'.1.1 v = true
        · have hv := isRef_eq hr
          subst hv
          have hcv : F ρ () = .ok (.lst τ'.1.2) := by rw [← hcv]; simp [outL]
          cases fl with
          | ret vv' =>
            have r6 : Rep _ h6 vv' (.ref τ'.1.1) := r6
            cases r6
            obtain ⟨⟨nn, ho⟩, hcon, hfl, hnb, hz⟩ := W6.cal.rep
            refine hQ (.lst τ'.1.2) _ h6 tk6 hcv W6.cal.base W6.cal.ff (k5.trans (X' := L :: (RL G.g).foot τ) (fun b hb => ?_) S6.keep) (Rep.lst ho rfl rfl (fun z => nomatch z) (hcon.mono fun a ha => absurd ha List.not_mem_nil) hz)
            rcases List.mem_cons.mp hb with rfl | hb
            · exact .inl (.head _)
            · exact (gr b hb).imp (fun z => nomatch z) id
          | _ => exact r6.elim
        · exact absurd (show F ρ () = .stuck by rw [← hcv]; simp [outL, hr]) hS
      | _ => exact absurd (show F ρ () = .stuck by rw [← hcv]; rfl) hS
    · refine hE e' h6 tk6 ?_ (Err.down (R := RU) k5 gr W.noRec x6)
      rw [show Fr (setAll ρ [j, i] [.int z, .ref s.heap.objs.size]) τ.1 = _ from e6] at hcv
      exact hcv.symm
    · rw [show Fr (setAll ρ [j, i] [.int z, .ref s.heap.objs.size]) τ.1 = _ from q] at hcv
      exact hS hcv.symm
end
section
variable {prog : Program} {w : World} {A : Around} {E : Value → Shared → Prop} {s : Shared}
theorem codeAny_compLoop_pt {elt iter : Expr} {elts : List Expr} {ifs : List Expr} {x1} {tp : Pos} {scope : Scope} {pos : Pos} {it acc : Value} {env : Env} {R : Result → Shared → Prop} (I : Nat → Shared → Prop)
    (turn : ∀ n s, I n s → wpAny (model prog w) A (pyNext it) (fun r s₁ => match r with
      | none => R (.ok .next) s₁
      | some v => wpAny (model prog w) A (letOwnedTupleGo (.Tuple elts x1 tp) it v) (fun _ s₁' => wpAny (model prog w) A (assign (.Tuple elts x1 tp) env v) (fun _ s₂ =>
          wpAny (model prog w) A (forIn ifs true fun c r => if r = true then do let ok ← isTrue c env (eval c env); pure (ForInStep.yield ok) else pure (ForInStep.yield r)) (fun ok s₃ =>
            if ok = true then wpAny (model prog w) A (eval elt env) (fun x s₄ =>
              wpAny (model prog w) A (call (.builtin "list.append") [acc, x]) (fun _ s₅ => ∃ m, m < n ∧ I m s₅) (notedBy (model prog w) A env fun e s' => R (.error e) s') s₄) (notedBy (model prog w) A env fun e s' => R (.error e) s') s₃
            else ∃ m, m < n ∧ I m s₃) (notedBy (model prog w) A env fun e s' => R (.error e) s') s₂)
          (notedBy (model prog w) A env fun e s' => R (.error e) s') s₁') (notedBy (model prog w) A env fun e s' => R (.error e) s') s₁) (notedBy (model prog w) A env fun e s' => R (.error e) s') s)
    (n : Nat) (h : I n s) : codeAny (model prog w) A (.compLoop (.ListComp elt [⟨.Tuple elts x1 tp, iter, ifs, 0⟩] scope pos) 0 it acc env) R s := by
  refine codeAny_loop rfl I (fun n s hI => ?_) n h
  show wpAny _ A ((compTurn (.ListComp elt [⟨.Tuple elts x1 tp, iter, ifs, 0⟩] scope pos) 0 it acc env).onRaise (fun x => do noteFrame x env; theTreesLotGoes x)) _ _ s
  refine wpAny_noted ?_
  rw [compTurn_list]
  refine wpAny_bind (wpAny_standAt (wpAny_bind (wpAny_mono (turn n s hI) (fun r s₁ h₁ => ?_) fun _ _ h' => h')))
  cases r with
  | none => exact wpAny_pure h₁
  | some v =>
    refine wpAny_bind (wpAny_mono h₁ (fun _ s₁' h₁' => ?_) fun _ _ h' => h')
    refine wpAny_bind (wpAny_mono h₁' (fun _ s₂ h₂ => wpAny_bind (wpAny_mono h₂ (fun ok s₃ h₃ => ?_) fun _ _ h' => h')) fun _ _ h' => h')
    cases ok with
    | false => exact wpAny_pure ⟨rfl, h₃⟩
    | true =>
      exact wpAny_bind (wpAny_bind (wpAny_mono h₃ (fun x s₄ h₄ => wpAny_bind (wpAny_mono h₄ (fun _ s₅ h₅ => wpAny_pure (wpAny_pure ⟨rfl, h₅⟩)) fun _ _ h' => h')) fun _ _ h' => h'))
end
section
variable {prog : Program} {w : World} {KK : Frag} {G : Gd KK} {Sy : Type} {R : StRep Sy} {f : Fn} {n : Nat}
theorem Wf.turn {Sy' : Type} {R' : StRep Sy'} {L : Addr} {cl : Cx} {vars : List Str} {outer : List Env} {h h' : Heap} {ρ : List V} {σ : RU.T} {τ : R'.T} (W : Wf G RU (f.env L cl) vars outer h ρ σ) (k : Keep [] h h') (hb : G.g.StaysIn h') (hff : h'.FunFrames G.g outer) (hr : R'.rep τ h') (hn : ∀ a ∈ R'.foot τ, h.get? a = none) :
    Wf G R' (f.env L cl) vars outer h' ρ τ := by
  have g : Grow (RU.foot σ) (R'.foot τ) h := fun b hb => .inr (hn b hb)
  have rk : ∀ {a : Value} {y : V}, Rep (RU.foot σ) h a y → Rep (R'.foot τ) h' a y := fun r => r.keep k g fun b hb => nomatch hb
  have nk : ∀ {a : Addr} {m : Str → Option Value}, h.Ns a m → h'.Ns a m := fun {a m} hn => by
    obtain ⟨o, es, ep, ho, hd, hn⟩ := hn
    obtain ⟨sl, q, _⟩ := k _ _ ho (fun z => nomatch z)
    exact ⟨_, es, ep, q, hd, hn⟩
  have ne : ∀ {a : Addr} {o : Obj}, h.get? a = some o → a ∉ R'.foot τ := fun {a o} ho z => by rw [hn a z] at ho; cases ho
  obtain ⟨L', m, e, hm⟩ := W.nsF
  obtain ⟨m', hm'⟩ := W.ns
  refine ⟨W.above, ⟨hb, hff, fun e he b hb z => ?_, hr⟩, W.top, ⟨L', m, e, nk hm⟩, ⟨m', nk hm'⟩, fun z => ?_, fun i x v a b' c => ?_⟩
  · obtain ⟨_, o, ho, _⟩ := W.cal.ff.mem (List.mem_filterMap.mpr ⟨e, he, hb⟩)
    exact ne ho z
  · obtain ⟨o, es, ep, ho, _⟩ := hm'
    exact ne ho z
  · rcases W.var i x v a b' c with ⟨hk, m, vv, hn, hm, r⟩ | ⟨hk, c, vv, hc, hx, ⟨o, ho, hd⟩, r⟩
    · exact .inl ⟨hk, m, vv, nk hn, hm, rk r⟩
    · obtain ⟨sl, q, _⟩ := k _ _ ho (fun z => nomatch z)
      exact .inr ⟨hk, c, vv, hc, ne ho, ⟨_, q, hd⟩, rk r⟩
theorem Wf.over {L D : Addr} {cl : Cx} {vars : List Str} {outer : List Env} {h h' : Heap} {ρ : List V} {σ : RU.T} {P : Obj → Prop} (W : Wf G RU (f.env L cl) vars outer h ρ σ) (k : Keep [] h h') (hb : G.g.StaysIn h') (hD : h.get? D = none) (hp : ∃ ob, h'.get? D = some ob ∧ P ob) : Wf G (Rx RU D P) (f.env L cl) vars outer h' ρ σ :=
  W.turn (R' := Rx RU D P) (τ := σ) k hb (ff_mono (fun b o e hd => let ⟨sl, q, _⟩ := k b o e (fun z => nomatch z); ⟨_, q, hd⟩) W.cal.ff) ⟨trivial, hp, fun z => nomatch z⟩ fun a ha => ((List.mem_cons (a := a) (l := [])).mp ha).elim (fun e => e.symm ▸ hD) fun z => nomatch z
noncomputable def Res.only {α β : Type} (r : Res α) (f : α → Res β) : Res β := match r with | .ok a => f a | _ => .stuck
theorem Res.only_ok {α β : Type} {r : Res α} {f : α → Res β} {b : β} (h : r.only f = .ok b) : ∃ a, r = .ok a ∧ f a = .ok b := by
  cases r with
  | ok a => exact ⟨a, rfl, h⟩
  | _ => cases h
theorem Res.only_err {α β : Type} {r : Res α} {f : α → Res β} (h : r.only f = .err) : ∃ a, r = .ok a ∧ f a = .err := by
  cases r with
  | ok a => exact ⟨a, rfl, h⟩
  | _ => cases h
noncomputable def enumD (Ft : List V → Unit → Res (Bool × Unit)) : Nat → List V → Res (List V)
  | _, [] => .ok []
  | k, v :: l => (Ft [.int k, v] ()).only fun p => (enumD Ft (k + 1) l).bind fun r => .ok (bif p.1 then .int k :: r else r)
theorem enumD_ok {Ft : List V → Unit → Res (Bool × Unit)} {k : Nat} {v : V} {l r : List V} (h : enumD Ft k (v :: l) = .ok r) : ∃ b r', Ft [.int k, v] () = .ok (b, ()) ∧ enumD Ft (k + 1) l = .ok r' ∧ r = bif b then .int k :: r' else r' := by
  obtain ⟨p, hp, h⟩ := Res.only_ok h
  obtain ⟨r', h1, h2⟩ := Res.bind_eq_ok h
  cases h2
  exact ⟨p.1, r', hp, h1, rfl⟩
theorem enumD_err {Ft : List V → Unit → Res (Bool × Unit)} (l : List V) : ∀ k, enumD Ft k l ≠ .err := by
  induction l with
  | nil => intro k h; cases h
  | cons v l ih => exact fun k h => let ⟨_, _, h⟩ := Res.only_err h; (Res.bind_eq_err h).elim (ih _) fun ⟨_, _, h⟩ => nomatch h
noncomputable def Low (it : Nat) (h h' : Heap) : Prop := ∀ b o, b < it → h.get? b = some o → h'.get? b = some o
structure EcI {KK : Frag} (G : Gd KK) (ad : Addr) (h₀ : Heap) (it : Nat) (h : Heap) (q : Nat) (vs : List Value) (vals : List V) : Prop where
  K : Keep [] h₀ h
  base : G.g.StaysIn h
  E : ∃ old, IsEnum h (it + 1) it q old
  I : h.IsListIter it ad q
  D : h.IsList (it + 2) vs.toArray
  ns : ∃ m, h.Ns (it + 3) m
  r : RepL [] h vs vals
  fl : vals.all flat1 = true
structure EcG {KK : Frag} (G : Gd KK) (h₀ : Heap) (it : Nat) : Prop where
  sz : h₀.objs.size = it
  base : G.g.StaysIn h₀
section
variable {h₀ h h' : Heap} {it q : Nat} {ad : Addr} {vs : List Value} {vals : List V}
theorem EcG.new (g : EcG G h₀ it) {k : Nat} (hk : it ≤ k) : h₀.get? k = none := by
  cases q : h₀.get? k with
  | none => rfl
  | some o => exact absurd (Heap.lt_size q) (Nat.not_lt.mpr (g.sz.symm ▸ hk))
theorem EcG.gnew (g : EcG G h₀ it) {k : Nat} (hk : it ≤ k) : G.g.get? k = none := by
  cases q : G.g.get? k with
  | none => rfl
  | some o => have := g.base _ _ q; rw [g.new hk] at this; cases this
theorem EcG.gs (g : EcG G h₀ it) : G.g.objs.size ≤ it := by
  obtain ⟨o, ho⟩ := G.last
  exact Nat.le_of_pred_lt (g.sz ▸ Heap.lt_size (g.base _ _ ho))
theorem EcG.low (g : EcG G h₀ it) (l : Low it h h') (K : Keep [] h₀ h) (b : G.g.StaysIn h) : Keep [] h₀ h' ∧ G.g.StaysIn h' :=
  ⟨fun b o e hb => let ⟨sl, q, z⟩ := K b o e hb; ⟨sl, l b _ (g.sz ▸ Heap.lt_size e) q, z⟩, fun c o e => l c o (g.sz ▸ Heap.lt_size (g.base c o e)) (b c o e)⟩
theorem EcI.list (X : EcI G ad h₀ it h q vs vals) {vls : List Value} (hL : h₀.IsList ad vls.toArray) : h.IsList ad vls.toArray := by
  obtain ⟨o, ho, r⟩ := hL
  obtain ⟨sl, e, _⟩ := X.K ad o ho (fun z => nomatch z)
  exact ⟨_, e, r⟩
theorem Low.same {b : Addr} (hs : Heap.SameBut b h h') (hb : it ≤ b) : Low it h h' := fun c o hc e => (hs.2 c (Nat.ne_of_lt (Nat.lt_of_lt_of_le hc hb))).trans e
theorem Wf.pair {fc : Fn} {L C D : Addr} {cl : Cx} {outer : List Env} {ρ : List V} {σ : RU.T} {P : Obj → Prop} {a b : Str} {m : Str → Option Value} {va vb : Value} {x y : V} (W : Wf G (Rx RU D P) (f.env L cl) f.vars outer h ρ σ) (hc : fc.isC = true) (hv : fc.vars = [a, b]) (hka : fc.cs.names.lookup a = some .local) (hkb : fc.cs.names.lookup b = some .local)
    (hC : G.g.objs.size ≤ C) (hCD : C ≠ D) (hn : h.Ns C m) (ha : m a = some va) (hb : m b = some vb) (ra : Rep [D] h va x) (rb : Rep [D] h vb y) : Wf G (Rx RU D P) (fc.env L ⟨[], C⟩) fc.vars outer h [x, y] σ := by
  have el : (fc.env L ⟨[], C⟩).locals = C := by show (bif fc.isC then C else L) = C; rw [hc]; rfl
  refine ⟨el.symm ▸ hC, W.cal, W.top, W.nsF, ⟨m, el.symm ▸ hn⟩, fun z => ((List.mem_cons (a := C) (l := [])).mp (el ▸ z)).elim hCD (fun z => nomatch z), fun i u v hi hu hne => .inl ?_⟩
  rw [hv] at hi
  rw [el]
  cases i with
  | zero => cases hi; cases hu; exact ⟨hka, m, va, hn, ha, ra⟩
  | succ i =>
    cases i with
    | zero => cases hi; cases hu; exact ⟨hkb, m, vb, hn, hb, rb⟩
    | succ i => cases hi
variable {fc : Fn} {L : Addr} {cl : Cx} {A : Around} {outer : List Env} {ρ : List V} {σ : RU.T} {vls : List Value} {l : List V} {v : V} {a b : Str} {s : Shared} {E : Value → Shared → Prop} {pa2 pb tp : Pos} {kd : Nat}
theorem ec_next {Q : Option Value → Shared → Prop} (g : EcG G h₀ it) (hA : AOk A outer n) (X : EcI G ad h₀ it s.heap q vs vals) (hL : h₀.IsList ad vls.toArray) (hl : RepL [] h₀ vls l) (hv : l[q]? = some v) (hFc : FOk fc) (hc : fc.isC = true) (hka : fc.cs.names.lookup a = some .local) (hkb : fc.cs.names.lookup b = some .local) (hab : a ≠ b) {M : Unit → Shared → Prop} {E' : Value → Shared → Prop}
    (hQ : ∀ vv s₁, wpAny (model prog w) A (letOwnedTupleGo (.Tuple [.Name a pa2, .Name b pb] kd tp) (.ref (it + 1)) vv) (fun _ s₁' => wpAny (model prog w) A (assign (.Tuple [.Name a pa2, .Name b pb] kd tp) (fc.env L ⟨[], it + 3⟩) vv) M E' s₁') E' s₁ → Q (some vv) s₁)
    (h : ∀ h' tk m vb t, EcI G ad h₀ it h' (q + 1) vs vals → h'.Ns (it + 3) m → m a = some (.int q t) → m b = some vb → Rep [it + 2] h' vb v → M () { s with heap := h', toks := tk }) : wpAny (model prog w) A (pyNext (.ref (it + 1))) Q E s := by
  obtain ⟨xv, hxv, rx⟩ := hl.get hv
  obtain ⟨old, hE⟩ := X.E
  obtain ⟨mC, hmC⟩ := X.ns
  refine wpAny_pyNext_enum_item hE X.I (X.list hL) (x := xv) (by simpa using hxv) (Nat.succ_ne_self it) (fun h4 hO hI hT hsz hk => hQ _ _ ?_)
  have hlE := Heap.lt_size hE
  refine wpAny_letOwnedTupleGo_enum (s := ⟨_, _, _, _, _⟩) hO (fun h5 hE5 hs5 => ?_)
  have k5 : ∀ b o, b ≠ it + 1 → b ≠ it → s.heap.get? b = some o → h5.get? b = some o := fun b o h1 h2 e => (hs5.2 b h1).trans (hk b o h1 h2 e)
  refine wpAny_assign_Tuple (s := ⟨_, _, _, _, _⟩) hA.handled ⟨_, (hs5.2 s.heap.objs.size (Nat.ne_of_gt hlE)).trans hT, rfl, _, rfl⟩ rfl rfl fun h6 ex6 => ?_
  have st6 : h5.StaysIn h6 := StaysIn.of_ext ex6
  have el : (fc.env L ⟨[], it + 3⟩).locals = it + 3 := by show (bif fc.isC then it + 3 else L) = it + 3; rw [hc]; rfl
  have hp : ((fc.env L ⟨[], it + 3⟩).scope.kind == .class || ((fc.env L ⟨[], it + 3⟩).scope.kind == .module && (fc.env L ⟨[], it + 3⟩).locals != (fc.env L ⟨[], it + 3⟩).globals)) = false := by show (fc.cs.kind == .class || (fc.cs.kind == .module && _)) = false; rw [hFc.kind]; rfl
  have n30 : it + 3 ≠ it := Nat.ne_of_gt (Nat.lt_add_of_pos_right (by decide))
  have n31 : it + 3 ≠ it + 1 := fun e => by have := Nat.add_left_cancel e; cases this
  have hn6 : h6.Ns (fc.env L ⟨[], it + 3⟩).locals mC := by
    obtain ⟨o, es, ep, ho, r⟩ := hmC
    rw [el]; exact ⟨o, es, ep, st6 _ _ (k5 _ _ n31 n30 ho), r⟩
  refine wpAny_assignInOrder_more (assign_Name (wpAny_storeName_local (s := ⟨_, _, _, _, _⟩) hka hn6 (fun h7 hn7 hs7 => ?_) hp))
  refine wpAny_assignInOrder_more (assign_Name (wpAny_storeName_local (s := ⟨_, _, _, _, _⟩) hkb hn7 (fun h8 hn8 hs8 => ?_) hp))
  refine wpAny_assignInOrder_none ?_
  rw [el] at hn8 hs7 hs8
  have k8 : ∀ b o, b ≠ it + 3 → h5.get? b = some o → h8.get? b = some o := fun b o h1 e => (hs8.2 b h1).trans ((hs7.2 b h1).trans (st6 b o e))
  have lw : Low it s.heap h8 := fun b o hb e => k8 b o (Nat.ne_of_lt (Nat.lt_add_right 3 hb)) (k5 b o (Nat.ne_of_lt (Nat.lt_succ_of_lt hb)) (Nat.ne_of_lt hb) e)
  obtain ⟨K8, b8⟩ := g.low lw X.K X.base
  obtain ⟨oi, hoi, ri⟩ := hI
  obtain ⟨oD, hoD, rD⟩ := X.D
  have n21 : it + 2 ≠ it + 1 := fun e => by have := Nat.add_left_cancel e; cases this
  have n20 : it + 2 ≠ it := Nat.ne_of_gt (Nat.lt_add_of_pos_right (by decide))
  refine h h8 _ _ xv s.toks ⟨K8, b8, ⟨xv, k8 _ _ (Ne.symm n31) hE5⟩, ⟨oi, k8 _ _ (Ne.symm n30) ((hs5.2 it (Ne.symm (Nat.succ_ne_self it))).trans hoi), ri⟩, ⟨oD, k8 _ _ (fun e => by have := Nat.add_left_cancel e; cases this) (k5 _ _ n21 n20 hoD), rD⟩, ⟨_, hn8⟩, X.r.flat X.fl, X.fl⟩ hn8 ?_ (if_pos rfl) (rx.keep K8 (fun b hb => .inr (List.mem_singleton.mp hb ▸ g.new (Nat.le_add_right _ _))) fun b hb => nomatch hb)
  show (if a = b then _ else if a = a then _ else _) = _
  rw [if_neg hab, if_pos rfl]
theorem EcI.test {P : Obj → Prop} (X : EcI G ad h₀ it h q vs vals) (k : Keep [it + 2] h h') (b : G.g.StaysIn h') (D : h'.IsList (it + 2) vs.toArray) (g : EcG G h₀ it) : EcI G ad h₀ it h' q vs vals := by
  have n1 : ∀ {k}, k ≠ 2 → it + k ∉ [it + 2] := fun hk z => hk (Nat.add_left_cancel (List.mem_singleton.mp z))
  obtain ⟨old, hE⟩ := X.E
  obtain ⟨oi, hoi, ri, di⟩ := X.I
  obtain ⟨m, o, es, ep, ho, rn⟩ := X.ns
  obtain ⟨s1, e1, z1⟩ := k _ _ hE (n1 (k := 1) (by decide))
  obtain ⟨s2, e2, _⟩ := k _ _ hoi (n1 (k := 0) (by decide))
  obtain ⟨s3, e3, _⟩ := k _ _ ho (n1 (k := 3) (by decide))
  refine ⟨fun b o e hb => ?_, b, ⟨old, ?_⟩, ⟨_, e2, ri, di⟩, D, ⟨m, _, es, ep, e3, rn⟩, X.r.flat X.fl, X.fl⟩
  · obtain ⟨sl, q, z⟩ := X.K b o e hb
    obtain ⟨sl', q', z'⟩ := k b _ q fun w => by rw [List.mem_singleton.mp w, g.new (Nat.le_add_right _ _)] at e; cases e
    exact ⟨sl', q', fun hd => (z' hd).trans (z hd)⟩
  · rw [z1 ⟨_, rfl⟩] at e1; exact e1
theorem EcI.put (X : EcI G ad h₀ it h q vs vals) (g : EcG G h₀ it) {i : Int} {t : Tok} (hs : Heap.SameBut (it + 2) h h') (D : h'.IsList (it + 2) (vs ++ [Value.int i t]).toArray) : EcI G ad h₀ it h' q (vs ++ [.int i t]) (vals ++ [.int i]) := by
  have n1 : ∀ {k}, k ≠ 2 → it + k ≠ it + 2 := fun hk z => hk (Nat.add_left_cancel z)
  have kk := hs.extBut
  obtain ⟨old, hE⟩ := X.E
  obtain ⟨oi, hoi, ri⟩ := X.I
  obtain ⟨m, o, es, ep, ho, rn⟩ := X.ns
  obtain ⟨K, b⟩ := g.low (Low.same hs (Nat.le_add_right _ _)) X.K X.base
  exact ⟨K, b, ⟨old, kk _ _ (n1 (k := 1) (by decide)) hE⟩, ⟨oi, kk _ _ (n1 (k := 0) (by decide)) hoi, ri⟩, D, ⟨m, o, es, ep, kk _ _ (n1 (k := 3) (by decide)) ho, rn⟩, (X.r.flat X.fl).append (.cons (.int _ _) .nil), by rw [List.all_append, X.fl]; rfl⟩
inductive EcL {KK : Frag} (G : Gd KK) (ad : Addr) (s : Shared) (it : Nat) (Ft : List V → Unit → Res (Bool × Unit)) (l r : List V) : Nat → Shared → Prop
  | mk {q : Nat} {vs : List Value} {vals r2 : List V} {h : Heap} {tk : Nat} (hq : q ≤ l.length) (X : EcI G ad s.heap it h q vs vals) (hr : enumD Ft q (l.drop q) = .ok r2) (e : vals ++ r2 = r) (hv : vals.length ≤ q) : EcL G ad s it Ft l r (l.length - q) { s with heap := h, toks := tk }
theorem ec_loop {iter : Expr} {na : Pos} {c : Expr} {scope : Scope} {pos : Pos} {Ft : List V → Unit → Res (Bool × Unit)} {r : List V} {RR : Result → Shared → Prop} {tk₀ : Nat} (g : EcG G s.heap it) (hA : AOk A outer n) (W : Wf G RU (f.env L cl) f.vars outer s.heap ρ σ) (hFc : FOk fc) (hc : fc.isC = true) (hvs : fc.vars = [a, b])
    (hT : ∀ D vs, SndT prog w G (Rx RU D (isL vs)) fc n c Ft) (hka : fc.cs.names.lookup a = some .local) (hkb : fc.cs.names.lookup b = some .local) (hab : a ≠ b) (hL : s.heap.IsList ad vls.toArray) (hl : RepL [] s.heap vls l) (hz : l.length ≤ 4000) (hen : enumD Ft 0 l = .ok r) (X : EcI G ad s.heap it h 0 [] [])
    (hend : ∀ h' tk vs, RepL [it + 2] h' vs r → r.length ≤ l.length → Keep [] s.heap h' → G.g.StaysIn h' → h'.IsList (it + 2) vs.toArray → (∃ m, h'.Ns (it + 3) m) → RR (.ok .next) { s with heap := h', toks := tk }) :
    codeAny (model prog w) A (.compLoop (.ListComp (.Name a na) [⟨.Tuple [.Name a pa2, .Name b pb] kd tp, iter, [c], 0⟩] scope pos) 0 (.ref (it + 1)) (.ref (it + 2)) (fc.env L ⟨[], it + 3⟩)) RR { s with heap := h, toks := tk₀ } := by
  refine codeAny_compLoop_pt (EcL G ad s it Ft l r) (fun k s' hI => ?_) l.length (.mk (q := 0) (Nat.zero_le _) X hen rfl (Nat.le_refl _))
  clear X hen
  obtain @⟨q, vs, vals, r2, h, tk, hq, X, hr2, rfl, hvl⟩ := hI
  by_cases hlt : q < l.length
  · rw [List.drop_eq_getElem_cons hlt] at hr2
    obtain ⟨bt, r3, hft, hr3, rfl⟩ := enumD_ok hr2
    clear hr2 hend
    have hk : l.length - (q + 1) < l.length - q := Nat.sub_lt_sub_left hlt (Nat.lt_succ_self q)
    refine ec_next (s := ⟨h, _, _, _, _⟩) g hA X hL hl (List.getElem?_eq_getElem hlt) hFc hc hka hkb hab (fun vv s₁ z => z) fun h' tk m vb t X' hn ha hb rb => ?_
    have Wc := Wf.pair (fc := fc) (W.over X'.K X'.base (g.new (Nat.le_add_right _ _)) X'.D) hc hvs hka hkb (x := .int q) (Nat.le_trans g.gs (Nat.le_add_right _ _)) (fun e => by have := Nat.add_left_cancel e; cases this) hn ha hb (.int _ _) rb
    refine wpAny_tests_one (hT (it + 2) vs L ⟨[], it + 3⟩ A outer ⟨h', _, _, _, _⟩ _ σ _ _ hA Wc (fun bb σ' bv h9 tk9 e9 W9 S9 rb => ?_) (fun e h9 tk9 e9 x => absurd (hft.symm.trans e9) (fun z => nomatch z)) (fun e => absurd (hft.symm.trans e) (fun z => nomatch z)))
    cases rb
    cases (Prod.mk.inj (Res.ok.inj (hft.symm.trans e9))).1
    have X9 := X'.test (P := isL vs) S9.keep W9.cal.base W9.cal.rep.2.1 g
    cases bt with
    | false => rw [if_neg (by decide)]; exact ⟨_, hk, .mk hlt X9 hr3 rfl (Nat.le_succ_of_le hvl)⟩
    | true =>
      rw [if_pos rfl]
      refine local_ (i := 0) (v := .int q) hFc (by rw [hvs]; rfl) W9 rfl fun vv rv => ?_
      obtain ⟨tt, rfl⟩ := rv.int? rfl
      refine wpAny_list_append (s := ⟨h9, _, _, _, _⟩) X9.D (fun h10 hl10 hs10 => ?_) (by rw [List.size_toArray, X9.r.length, sizeLine_eq]; omega)
      exact ⟨_, hk, .mk hlt (X9.put g hs10 (List.push_toArray vs _ ▸ hl10)) hr3 (List.append_assoc _ _ _) (by rw [List.length_append]; exact Nat.succ_le_succ hvl)⟩
  · cases Nat.le_antisymm hq (Nat.not_lt.mp hlt)
    rw [List.drop_eq_nil_of_le (Nat.le_refl _)] at hr2
    cases hr2
    rw [List.append_nil] at hend
    obtain ⟨old, hE⟩ := X.E
    refine wpAny_pyNext_enum_end (s := ⟨_, _, _, _, _⟩) hA.handled hE X.I (X.list hL) (by rw [List.getElem?_toArray, List.getElem?_eq_none_iff, hl.length]; exact Nat.le_refl _) (fun h4 k4 => ?_)
    obtain ⟨K4, b4⟩ := g.low (fun b o hb e => k4 b o (Nat.ne_of_lt hb) e) X.K X.base
    obtain ⟨oD, hoD, rD⟩ := X.D
    obtain ⟨mC, oc, es, ep, hoc, rC⟩ := X.ns
    exact hend h4 _ vs (X.r.flat X.fl) hvl K4 b4 ⟨oD, k4 _ _ (Nat.ne_of_gt (Nat.lt_add_of_pos_right (by decide))) hoD, rD⟩ ⟨mC, oc, es, ep, k4 _ _ (Nat.ne_of_gt (Nat.lt_add_of_pos_right (by decide))) hoc, rC⟩
theorem ec_end {i : Nat} {y : Str} {py : Pos} {r : List V} {Q : Unit → Shared → Prop} {h' : Heap} {tk : Nat} (g : EcG G s.heap it) (W : Wf G RU (f.env L cl) f.vars outer s.heap ρ σ) (hiy : f.vars[i]? = some y) (hky : f.cs.names.lookup y = some .local) (hC : f.isC = false) (hF : FOk f)
    (hr : RepL [it + 2] h' vs r) (hrl : r.length ≤ l.length) (hz : l.length ≤ 4000) (K4 : Keep [] s.heap h') (b4 : G.g.StaysIn h') (D4 : h'.IsList (it + 2) vs.toArray) (hns : ∃ m, h'.Ns (it + 3) m)
    (K : ∀ h' tk', Wf G RU (f.env L cl) f.vars outer h' (ρ.set i (.lst r)) σ → Stp RU [L] s.heap σ h' σ → Q () { s with heap := h', toks := tk' }) :
    wpAny (model prog w) A (assign (.Name y py) (f.env L cl) (.ref (it + 2))) (fun _ s₁ => ∃ m, s₁.heap.Ns (it + 3) m ∧ ∀ h'', Heap.SameBut (it + 3) s₁.heap h'' → Q () { s₁ with heap := h'' }) E { s with heap := h', toks := tk } := by
  have W4 := W.over K4 b4 (g.new (Nat.le_add_right _ 2)) D4
  obtain ⟨mC, oc, es, ep, hoc, rC⟩ := hns
  have hCn := g.new (k := it + 3) (Nat.le_add_right _ _)
  have hCL : it + 3 ≠ L := fun e => Wf.F_ne W (e ▸ hCn)
  refine assign_Name (store_ (s := ⟨h', _, _, _, _⟩) W4.weak hC hF.nd hiy hky hF.kind (comp_rep W4 hr (Nat.le_trans hrl (Nat.le_trans hz (by decide)))) fun h5 tk5 W5 S5 => ?_)
  obtain ⟨sl, e5, _⟩ := S5.keep _ _ hoc fun z => hCL (List.mem_singleton.mp z)
  have hn5 : h5.Ns (it + 3) mC := ⟨_, es, ep, e5, rC⟩
  refine ⟨mC, hn5, fun h6 hs6 => ?_⟩
  obtain ⟨W6, _, _⟩ := W5.offC ⟨mC, hn5⟩ hCL (fun e => by obtain ⟨m, o, es, ep, ho, _⟩ := W.ns; rw [← e, hCn] at ho; cases ho) (fun z => nomatch z) (g.gnew (Nat.le_add_right _ _)) (fun e he hb => by
    obtain ⟨_, o, ho, _⟩ := W.cal.ff.mem (List.mem_filterMap.mpr ⟨e, he, hb⟩)
    rw [hCn] at ho; cases ho) hs6
  refine K h6 tk5 W6 ⟨fun b o' e hb => ?_, .refl _ _⟩
  obtain ⟨sl, e2, z⟩ := K4 b o' e (fun z => nomatch z)
  obtain ⟨sl', e3, z'⟩ := S5.keep b _ e2 hb
  exact ⟨sl', hs6.extBut _ _ (fun w => by have w : b = it + 3 := w; rw [w, hCn] at e; cases e) e3, fun hd => (z' hd).trans (z hd)⟩
end
noncomputable def sEnumCompD {Γ : Type} (Ft : Γ → List V → Unit → Res (Bool × Unit)) (i : Nat) (j : Nat) : Γ → Dn Unit (Out × List V) := fun γ ρ σ => (getv ρ j).bind fun v => match v with | .lst l => if l.length ≤ 4000 then (enumD (Ft γ) 0 l).bind fun r => .ok ((.next, ρ.set i (.lst r)), σ) else .stuck | _ => .stuck
@[simp] theorem sEnumCompD_ap {Γ : Type} (Ft : Γ → List V → Unit → Res (Bool × Unit)) (i : Nat) (j : Nat) (γ : Γ) (ρ : List V) (σ : Unit) : (sEnumCompD Ft i j) γ ρ σ = (getv ρ j).bind fun v => match v with | .lst l => if l.length ≤ 4000 then (enumD (Ft γ) 0 l).bind fun r => .ok ((.next, ρ.set i (.lst r)), σ) else .stuck | _ => .stuck := rfl
theorem sEnumComp {Γ : Type} {γ : Γ} {a b en hn y : Str} {pa pa2 pb np hp tp cpos pos py spos : Pos} {kd : Nat} {c : Expr} {scope : Scope} {Ft : Γ → List V → Unit → Res (Bool × Unit)} (i j : Nat) (hF : FOk f)
    (hFc : FOk ⟨f.cn, relabel scope (f.env 0 {}), f.a, f.ccd, [a, b], true⟩)
    (hT : ∀ D vs, SndT prog w G (Rx RU D (isL vs)) ⟨f.cn, relabel scope (f.env 0 {}), f.a, f.ccd, [a, b], true⟩ n c (Ft γ))
    (hfree : ∀ x ∈ scope.names, x.2 ≠ .free) (hcell : ∀ x ∈ scope.names, x.2 ≠ .cell) (hkind : scope.kind = .function) (hnames : ∀ x ∈ scope.names, x.2 = .local → scope.names.lookup x.1 = some .local)
    (hka : (relabel scope (f.env 0 {})).names.lookup a = some .local) (hkb : (relabel scope (f.env 0 {})).names.lookup b = some .local) (hab : a ≠ b)
    (een : nsIn KK mainGlobals en = some none) (hven : bootBuiltins en = some (.type "enumerate")) (hnen : en ≠ "__name__") (hxen : f.cs.names.lookup en = some .globalImplicit) (hden : (en == ("__debug__" : Str)) = false)
    (hj : f.vars[j]? = some hn := by rfl) (hiy : f.vars[i]? = some y := by rfl) (hky : f.cs.names.lookup y = some .local := by decide +kernel) (hC : f.isC = false := by rfl)
    (hsw : ∀ L cl, swapsWith (.ListComp (.Name a pa) [⟨.Tuple [.Name a pa2, .Name b pb] kd tp, .Call (.Name en np) [.Name hn hp] [] cpos, [c], 0⟩] scope pos) (some (.Name y py)) spos.line (f.env L cl) = pure true := by intro _ _; rfl)
    (hs : ∀ env x, foldedSetIterable (.Call (.Name en np) [.Name hn hp] [] cpos) env x = pure x := by intro _ _; rfl) :
    SndS prog w G RU f n (.Assign [.Name y py] (.ListComp (.Name a pa) [⟨.Tuple [.Name a pa2, .Name b pb] kd tp, .Call (.Name en np) [.Name hn hp] [] cpos, [c], 0⟩] scope pos) spos)
        (sEnumCompD Ft i j γ) := SndG.mk fun L cl A outer s ρ σ Q E hA W K => by
  have K : KontS G RU f L cl outer s.heap σ s ((getv ρ j).bind fun v => match v with | .lst l => if l.length ≤ 4000 then (enumD (Ft γ) 0 l).bind fun r => .ok ((.next, ρ.set i (.lst r)), σ.1) else .stuck | _ => .stuck) Q E := K
  cases hg : getv ρ j with
  | err => exact absurd hg getv_err
  | stuck => rw [hg] at K; exact absurd rfl K.ns
  | ok v =>
  rw [hg] at K
  cases v with
  | lst l =>
    have hz4 : l.length ≤ 4000 := Decidable.byContradiction fun z => K.ns (if_neg z)
    have K : KontS G RU f L cl outer s.heap σ s (if l.length ≤ 4000 then (enumD (Ft γ) 0 l).bind fun r => .ok ((.next, ρ.set i (.lst r)), σ.1) else .stuck) Q E := K
    rw [if_pos hz4] at K
    cases hen : enumD (Ft γ) 0 l with
    | stuck => rw [hen] at K; exact absurd rfl K.ns
    | err => exact absurd hen (enumD_err _ _)
    | ok r =>
    rw [hen] at K
    rw [exec_Assign_Name_used _ _ _ _ (hsw _ _)]
    refine wpAny_bind (wpAny_standAt (wpAny_bind ?_))
    show wpAny _ A (do let _ ← comprehension (.ListComp (.Name a pa) [⟨.Tuple [.Name a pa2, .Name b pb] kd tp, .Call (.Name en np) [.Name hn hp] [] cpos, [c], 0⟩] scope pos) scope (f.env L cl) _ (newList []) false (eval (.Call (.Name en np) [.Name hn hp] [] cpos) (f.env L cl)) (some (assign (.Name y py) (f.env L cl)))) _ _ s
    refine wpAny_bind (wpAny_mono (listComp_ (use := some (assign (.Name y py) (f.env L cl))) (Q := fun _ s' => Q .next s') (E := E) _ (hs _) (closureFor_none hfree) hkind hnames ?_) (fun _ s' hq => wpAny_pure (wpAny_pure hq)) fun _ _ e => e)
    refine wpAny_Call_NameR (name_blt W een hven hnen ?_ hF.kind hxen hden)
    refine PySem.callWith_type rfl ?_
    refine evalArgs_plain ?_
    refine spliced_cons (local_ hF hj W hg fun vv rv => spliced_nil ?_)
    obtain ⟨ad, o, nn, vls, rfl, ho, hc, hd, _, hl, _⟩ := rv.lst? rfl
    have hL : s.heap.IsList ad vls.toArray := ⟨o, ho, hc, nn, hd⟩
    refine call_enumerate_list hL fun h1 hE1 hI1 hsz1 st1 => ?_
    refine wpAny_pyIter_enum (s := ⟨_, _, _, _, _⟩) hE1 ?_
    obtain ⟨it, hit⟩ : ∃ it, s.heap.objs.size = it := ⟨_, rfl⟩
    rw [hit] at hE1 hI1 hsz1 ⊢
    have g : EcG G s.heap it := ⟨hit, W.cal.base⟩
    refine wpAny_newObj_type (wpAny_newFunctionEnv hcell (by intro y hy; cases hy) (fun h3 hns3 hsb3 => ?_) hkind)
    have r2 : h1.StaysIn (h1.push { cls := .type "list", data := .seq ([] : List Value).toArray }) ∧ (h1.push { cls := .type "list", data := .seq ([] : List Value).toArray }).objs.size = it + 3 ∧ (h1.push { cls := .type "list", data := .seq ([] : List Value).toArray }).IsList (it + 2) ([] : List Value).toArray :=
      ⟨StaysIn.push _ _, (Heap.size_push _ _).trans (congrArg Nat.succ hsz1), _, hsz1 ▸ Heap.get?_push_size _ rfl, rfl, 0, rfl⟩
    change h3.Ns (h1.push _).objs.size _ at hns3
    change Heap.SameBut (h1.push _).objs.size ((h1.push _).push _) h3 at hsb3
    show codeAny _ A (.compStart _ 0 _ (.ref h1.objs.size) _) _ _
    rw [hsz1]
    generalize h1.push { cls := .type "list", data := .seq ([] : List Value).toArray } = H2 at r2 hns3 hsb3 ⊢
    obtain ⟨st2, sz2, hD⟩ := r2
    have eC : { newEnv scope H2.objs.size (f.env L cl).globals [] (f.env L cl).qual none .none (some (f.env L cl)) (f.env L cl).builtins with scope := relabel scope (f.env L cl) } = Fn.env ⟨f.cn, relabel scope (f.env 0 {}), f.a, f.ccd, [a, b], true⟩ L ⟨[], H2.objs.size⟩ := rfl
    rw [eC]
    rw [sz2] at hns3 hsb3 ⊢
    have st3 : ∀ b o, b ≠ it + 3 → H2.get? b = some o → h3.get? b = some o := fun b o hb e => hsb3.extBut b o hb (Heap.get?_push_of_some _ e)
    have n13 : ∀ {k}, k < 3 → it + k ≠ it + 3 := fun h e => Nat.ne_of_lt h (Nat.add_left_cancel e)
    have lw : Low it s.heap h3 := fun b o hb e => st3 b o (Nat.ne_of_lt (Nat.lt_add_right 3 hb)) (st2 _ _ (st1 _ _ e))
    obtain ⟨K3, b3⟩ := g.low lw (Keep.refl [] _) W.cal.base
    have X3 : EcI G ad s.heap it h3 0 [] [] := by
      obtain ⟨oi, hoi, ri⟩ := hI1
      obtain ⟨oD, hoD, rD⟩ := hD
      exact ⟨K3, b3, ⟨_, st3 _ _ (n13 (k := 1) (by decide)) (st2 _ _ hE1)⟩, ⟨oi, st3 _ _ (n13 (k := 0) (by decide)) (st2 _ _ hoi), ri⟩, ⟨oD, st3 _ _ (n13 (k := 2) (by decide)) hoD, rD⟩, ⟨_, hns3⟩, .nil, rfl⟩
    clear eC hsb3 st3 st2 st1 hns3 hI1 hD n13 hsz1 sz2 lw K3 b3
    have loop : ∀ tk, codeAny (model prog w) A (.compLoop (.ListComp (.Name a pa) [⟨.Tuple [.Name a pa2, .Name b pb] kd tp, .Call (.Name en np) [.Name hn hp] [] cpos, [c], 0⟩] scope pos) 0 (.ref (it + 1)) (.ref (it + 2)) (Fn.env ⟨f.cn, relabel scope (f.env 0 {}), f.a, f.ccd, [a, b], true⟩ L ⟨[], it + 3⟩)) (compEnd (model prog w) A E (some (assign (.Name y py) (f.env L cl))) (fun _ s' => Q .next s') (.ref (it + 2)) (Fn.env ⟨f.cn, relabel scope (f.env 0 {}), f.a, f.ccd, [a, b], true⟩ L ⟨[], it + 3⟩)) { s with heap := h3, toks := tk } := fun tk₀ =>
      ec_loop (fc := ⟨f.cn, relabel scope (f.env 0 {}), f.a, f.ccd, [a, b], true⟩) g hA W hFc rfl rfl hT hka hkb hab hL hl hz4 hen X3 fun h tk vs hc hz k b d hns => ec_end (prog := prog) (w := w) (A := A) (py := py) (E := E) (tk := tk) (Q := fun _ s' => Q .next s') g W hiy hky hC hF hc hz hz4 k b d hns (fun h' tk' W' S' => K.ok .next _ σ .next h' tk' rfl W' S' trivial)
    obtain ⟨old, hE⟩ := X3.E
    refine codeAny_compStart_list (loop _) (wpAny_pyIter_enum (s := ⟨_, _, _, _, _⟩) hE (loop _))
  | _ => exact absurd rfl K.ns
end
set_option maxHeartbeats 0
noncomputable def kcl (c : Int) (l : List (Int × Addr)) : List Value := l.flatMap fun p => [.int p.1 0, .int c 0, .ref p.2]
noncomputable def kns (l : List DictEntry) (e : DictEntry) : List DictEntry := l.take 1 ++ e :: l.drop 1
noncomputable def k12 : List (Int × Addr) := [(2, 20), (24, 40), (26, 47), (28, 54), (30, 61), (32, 68), (34, 75), (36, 82), (38, 89), (40, 96), (65, 103), (315, 264), (319, 271), (328, 278), (332, 285), (350, 292), (357, 299), (376, 306), (381, 313), (407, 318), (435, 323), (449, 330), (456, 335)]
noncomputable def kob (P : Params) (m j : Nat) (nm : Value) (o2 : Obj) : List Obj := let lk := fun a => ((KF P).lookup a).getD default; [boot_o_0 P, boot_o_1 P, o2, { cls := .type "dict", data := .dict ((de P "__name__" 165 nm :: (kl3 P).drop 1).take m).toArray m }, boot_o_4 P, boot_o_5 P, boot_o_6 P, boot_o_7 P, boot_o_8 P, boot_o_9 P, boot_o_10 P, ktu [], kfe (kcl 0 (k12.take j)), kcd "<module>" "<module>" 182 1 0 0 11 false 12 [.none, .none, .none] 185 186, { cls := .type "frame", slots := #[some (.ref 13), some (.ref 3), some (.ref 3), none, some (.str "__main__" 164), none, some (.ref 0)] }] ++ [lk 15, { cls := .type "builtin_function_or_method", data := .fields #[.builtin "type.__prepare__", .type "type"] }, { cls := .type "dict", data := .dict (kns (kl30 P) (de P "__qualname__" 198 (.str "LuaError" 197))).toArray 5 }, ktu [], kfe (kcl 4 [(4, 27)]), kcd "LuaError" "LuaError" 191 2 0 0 18 false 19 [.none, .none, .none] 194 195, { cls := .type "frame", slots := #[some (.ref 20), some (.ref 3), some (.ref 17), none, some (.str "lua.values" 187), none, some (.ref 0)] }] ++ kd22 ++ [ktu [.str "is_in_handler" 209, .str "trace" 210, .str "value" 211], lk 30, lk 31, lk 32, { cls := .type "super", data := .fields #[.ref 31, .ref 31, .ref 31] }, { cls := .type "builtin_function_or_method", data := .fields #[.builtin "object.__init_subclass__", .ref 31] }] ++ kd35 ++ kd42 ++ kd49 ++ kd56 ++ kd63 ++ kd70 ++ kd77 ++ kd84 ++ kd91 ++ [ktu [], { cls := .type "builtin_function_or_method", data := .fields #[.builtin "type.__prepare__", .type "type"] }, { cls := .type "dict", data := .dict (kns (kl252 P) (de P "__qualname__" 329 (.str "Matcher" 328))).toArray 25 }, ktu [], kfe (kcl 4 [(67, 111), (78, 118), (82, 125), (88, 132), (91, 139), (113, 146), (134, 153), (146, 160), (155, 167), (193, 174), (200, 181), (220, 188), (230, 195), (242, 202), (251, 209), (262, 216), (270, 223), (278, 230), (288, 237), (298, 242), (302, 249)]), kcd "Matcher" "Matcher" 322 65 0 0 101 false 102 [.none, .none, .none] 325 326, { cls := .type "frame", slots := #[some (.ref 103), some (.ref 3), some (.ref 100), none, some (.str "lua.patterns" 220), none, some (.ref 0)] }, lk 105] ++ kd106 ++ kd113 ++ kd120 ++ kd127 ++ kd134 ++ kd141 ++ kd148 ++ kd155 ++ kd162 ++ kd169 ++ kd176 ++ kd183 ++ kd190 ++ kd197 ++ kd204 ++ kd211 ++ kd218 ++ kd225 ++ kd232 ++ kd239 ++ kd244 ++ [ktu [.str "depth" 557, .str "lengths" 558, .str "level" 559, .str "most_depth" 560, .str "pattern" 561, .str "starts" 562, .str "text" 563, .str "tick" 564], lk 252, lk 253, lk 254, lk 255, { cls := .type "super", data := .fields #[.ref 253, .ref 253, .ref 253] }, { cls := .type "builtin_function_or_method", data := .fields #[.builtin "object.__init_subclass__", .ref 253] }, lk 258] ++ kd259 ++ kd266 ++ kd273 ++ kd280 ++ kd287 ++ kd294 ++ kd301 ++ kd308 ++ kd315 ++ kd320 ++ kd325 ++ kd332
noncomputable def ktr (P : Params) (n m j : Nat) (nm : Value) (o2 : Obj) : BT := (((kob P m j nm o2).take n).foldl (fun (t : BT × Nat) o => (t.1.ins t.2 o, t.2 + 1)) (BT.nil, 0)).1
noncomputable def kST (P : Params) (os : OsState) (n k m j : Nat) (nm : Value) (o2 : Obj) : SharedT := ⟨ktr P n m j nm o2, n, {}, #[], {}, k, os⟩
noncomputable def k2 (P : Params) : Obj := { cls := .none, data := .dict #[de P "type.__subclasses__.Exception.0" 216 (.int 31 0), de P "type.__subclasses__.Exception.n" 217 (.int 1 0)] 2 }
noncomputable abbrev kS0 (P : Params) (os : OsState) : SharedT := kST P os 15 187 9 0 (.str "__main__" 164) { cls := .none, data := .dict #[] }
noncomputable abbrev kS1 (P : Params) (os : OsState) : SharedT := kST P os 35 220 10 1 km1 (k2 P)
noncomputable abbrev kS2 (P : Params) (os : OsState) : SharedT := kST P os 35 254 25 1 km2 (k2 P)
noncomputable abbrev kS3 (P : Params) (os : OsState) : SharedT := kST P os 98 320 34 10 km2 (k2 P)
noncomputable abbrev kS4 (P : Params) (os : OsState) : SharedT := kST P os 258 573 35 11 km2 (k2 P)
noncomputable abbrev kS5 (P : Params) (os : OsState) : SharedT := kST P os 337 711 48 23 km3 (k2 P)
noncomputable def kenv : Env := { scope := PW.main.scope, locals := mainNs, globals := mainNs, cells := [], code := .ref 13, frame := some 14 }
noncomputable abbrev kbd : List Stmt := behindTheImports PW
noncomputable abbrev kc : Code := .body kbd kenv
noncomputable abbrev kp0 : Pos := ⟨0, 0, 0, 0⟩
noncomputable def ksl (i n : Nat) : List Stmt := (kbd.drop i).take n
section
variable (w : World) (os : OsState)
theorem kx0 : topGo treeTable PW w 11 (some (.ref 6)) 12 ⟨boot_heap w.params, Array.mk [], boot_drawn, boot_toks, os⟩ (topStub PW) = some ((kS0 w.params os).abs, ⟨denote treeTable kc, kc, kp0, [topFrame kp0]⟩) := by kernel_rfl
theorem kxb : segRun treeTable PW w 11 (some (.ref 6)) 1 1 (kS0 w.params os).abs (blockOf kbd kenv kc kp0 [topFrame kp0]) = some (.next, (kS0 w.params os).abs, kc, kp0) := by kernel_rfl
theorem kx1 : segRunT treeTable PW w 11 (some (.ref 6)) 1 240 (kS0 w.params os) (piecesOf (ksl 0 2) kenv kc kp0 [topFrame kp0]) = some (.next, kS1 w.params os, kc, ⟨2, 0, 7, 34⟩) := by kernel_rfl
theorem kx2 : segRunT treeTable PW w 11 (some (.ref 6)) 1 155 (kS1 w.params os) (piecesOf (ksl 2 16) kenv kc ⟨2, 0, 7, 34⟩ [topFrame kp0]) = some (.next, kS2 w.params os, kc, ⟨23, 0, 23, 4⟩) := by kernel_rfl
theorem kx3 : segRunT treeTable PW w 11 (some (.ref 6)) 1 265 (kS2 w.params os) (piecesOf (ksl 18 9) kenv kc ⟨23, 0, 23, 4⟩ [topFrame kp0]) = some (.next, kS3 w.params os, kc, ⟨40, 0, 64, 51⟩) := by kernel_rfl
theorem kx4 : segRunT treeTable PW w 11 (some (.ref 6)) 1 926 (kS3 w.params os) (piecesOf (ksl 27 1) kenv kc ⟨40, 0, 64, 51⟩ [topFrame kp0]) = some (.next, kS4 w.params os, kc, ⟨65, 0, 312, 19⟩) := by kernel_rfl
theorem kx5 : segRunT treeTable PW w 11 (some (.ref 6)) 1 413 (kS4 w.params os) (piecesOf (ksl 28 14) kenv kc ⟨65, 0, 312, 19⟩ [topFrame kp0]) = some (.next, kS5 w.params os, kc, ⟨456, 0, 463, 15⟩) := by kernel_rfl
theorem kxf : topRun treeTable PW w 11 (some (.ref 6)) 2 (kS5 w.params os).abs ⟨doneF .next, kc, ⟨456, 0, 463, 15⟩, [topFrame kp0]⟩ = some (kS5 w.params os).abs := by kernel_rfl
theorem kbody : kbd = ksl 0 2 ++ (ksl 2 16 ++ (ksl 18 9 ++ (ksl 27 1 ++ (ksl 28 14 ++ [])))) := by kernel_rfl
theorem kopen : opening PW = plainProg PW.main.scope.names := by kernel_rfl
theorem kfence : ∀ s, fenceModules? PW s = some s := by intro s; kernel_rfl
theorem ksize : ((boot_heap w.params).isNs mainGlobals && (Array.mk [] : Array GenState).size == 0, (boot_heap w.params).objs.size, (boot_heap w.params).nsMap mainGlobals "__annotations__") = (true, 11, some (.ref 6)) := by kernel_rfl
theorem kcast {l l' : List Stmt} (e : l = l') {n : Nat} {s r : Shared} {c : Code} {p : Pos} (h : topRun treeTable PW w 11 (some (.ref 6)) n s (restOf l' kenv c p [topFrame kp0]) = some r) : topRun treeTable PW w 11 (some (.ref 6)) n s (restOf l kenv c p [topFrame kp0]) = some r := e ▸ h
theorem krun : topRun treeTable PW w 11 (some (.ref 6)) (12 + (1 + (240 + (155 + (265 + (926 + (413 + 2))))))) ⟨boot_heap w.params, Array.mk [], boot_drawn, boot_toks, os⟩ (topStub PW) = some (kS5 w.params os).abs :=
  go_top (kx0 w os) (piece_block (kxb w os) (kcast w kbody (piece_app (segRun_of (kx1 w os)) (piece_app (segRun_of (kx2 w os)) (piece_app (segRun_of (kx3 w os)) (piece_app (segRun_of (kx4 w os)) (piece_app (segRun_of (kx5 w os)) (piece_nil (kxf w os)))))))))
end
noncomputable abbrev kH (P : Params) : Heap := absHeap (ktr P 337 48 23 km3 (k2 P)) 337 {}
theorem kabs (w : World) (os : OsState) : (kS5 w.params os).abs = ⟨kH w.params, Array.mk [], {}, 711, os⟩ := by kernel_rfl
theorem krun' (w : World) (os : OsState) : topRun treeTable PW w 11 (some (.ref 6)) (12 + (1 + (240 + (155 + (265 + (926 + (413 + 2))))))) ⟨boot_heap w.params, Array.mk [], boot_drawn, boot_toks, os⟩ (topStub PW) = some ⟨kH w.params, Array.mk [], {}, 711, os⟩ :=
  (krun w os).trans (congrArg some (kabs w os))
theorem kl1 (w : World) (os : OsState) : (staticsOk (importedModules PW.main.body) (boot_heap w.params) (kH w.params) && namesBound PW (kH w.params) && gensDone ⟨kH w.params, Array.mk [], {}, 711, os⟩ && laidKept (boot_heap w.params) (kH w.params)) = true := by kernel_rfl
theorem kl2 (w : World) (os : OsState) : openSeen VW [Str.ofString "_law_pieces"] (importedModules PW.main.body) (fun s => xlAt VW [] s && recOk (RowW.records Challenge.rw_sa0469_01.row.toRowW) s) true ⟨kH w.params, Array.mk [], {}, 711, os⟩ = openGood VW [Str.ofString "_law_pieces"] := by kernel_rfl
theorem kl4 (w : World) (os : OsState) : HK.obs ⟨kH w.params, Array.mk [], {}, 711, os⟩ = HK.val w := by kernel_rfl
theorem klk (w : World) : (fun os : OsState => ((staticsOk (importedModules PW.main.body) (boot_heap w.params) (kH w.params) && namesBound PW (kH w.params) && gensDone ⟨kH w.params, Array.mk [], {}, 711, os⟩ && laidKept (boot_heap w.params) (kH w.params)), openSeen VW [Str.ofString "_law_pieces"] (importedModules PW.main.body) (fun s => xlAt VW [] s && recOk (RowW.records Challenge.rw_sa0469_01.row.toRowW) s) true ⟨kH w.params, Array.mk [], {}, 711, os⟩, HK.obs ⟨kH w.params, Array.mk [], {}, 711, os⟩)) = fun _ => (true, openGood VW [Str.ofString "_law_pieces"], HK.val w) :=
  funext fun os => looks_pair (kl1 w os) (looks_pair (kl2 w os) (kl4 w os))
theorem whole : LeftO PW VW [Str.ofString "_law_pieces"] (fun s => xlAt VW [] s && recOk (RowW.records Challenge.rw_sa0469_01.row.toRowW) s) HK.obs HK.val 4114 :=
  LeftO.of_pieces (boot_open kopen rfl kfence) ksize krun' rfl klk
set_option maxHeartbeats 4000000
noncomputable def strKeysB (es : Array DictEntry) : Bool := es.toList.all fun e => match e.key with | .str .. => true | _ => false
theorem strKeys_of {es : Array DictEntry} (h : strKeysB es = true) : StrKeys es := fun e he => by
  have := List.all_eq_true.mp h e (Array.mem_def.mp he)
  cases hk : e.key <;> rw [hk] at this <;> first | exact ⟨_, _, rfl⟩ | cases this
theorem mOk (P : Params) : MOk (KF P) where
  C := ⟨rfl, rfl, rfl, rfl, rfl⟩
  LS := ⟨⟨_, rfl, rfl⟩, rfl⟩
  LL := ⟨⟨_, rfl, rfl⟩, rfl⟩
  ID := ⟨⟨_, rfl, rfl⟩, rfl⟩
  IL := ⟨⟨_, rfl, rfl⟩, rfl⟩
  text := ⟨_, rfl, rfl⟩
  pat := ⟨_, rfl, rfl⟩
  most := ⟨_, rfl, rfl⟩
  tick := ⟨_, rfl, rfl⟩
  O := ⟨⟨rfl⟩, ⟨rfl, rfl, strKeys_of rfl, rfl, rfl, rfl, rfl, rfl⟩, ⟨rfl, rfl, rfl, fun _ _ => rfl, rfl, rfl, rfl, rfl, rfl, by decide +kernel⟩⟩
open PySem PySem.W PySem.Calls PyProof.Rows PySem.Spec
open Builtin
section
variable {prog : Program} {w : World}
open PySem.SeqAt in
theorem eqAt_bytes {A : Around} {s : Shared} (a b : Array UInt8) (t u : Tok) : EqAt A s (.bytes a t) (.bytes b u) (a.toList == b.toList) := fun prog w E Q h => by
  unfold eqBool
  show wpAny _ _ (if (Value.bytes a t == Value.bytes b u) = true then _ else _) Q E s
  by_cases hab : (Value.bytes a t == Value.bytes b u) = true
  · rw [if_pos hab]
    have e : a = b := by have := eq_of_beq hab; injection this
    subst e
    exact wpAny_bind (wpAny_rule (wpAny_pure (by simpa using h)))
  · rw [if_neg hab]
    exact wpAny_bind (eq_bytes (wpAny_truthy_bool h))
noncomputable def allBytes : List V → Option (List (List UInt8))
  | [] => some []
  | x :: l => x.bytes?.bind fun b => (allBytes l).map (b :: ·)
noncomputable def evInT : V → V → Option V := on2 V.bytes? V.tup? fun b l => (allBytes l).map fun l => .bool (l.any fun c => decide (c = b))
noncomputable def eqB (b : List UInt8) : Value → Bool
  | .bytes c _ => c.toList == b
  | _ => false
theorem allBytes_rep {X : List Addr} {h : Heap} (b : List UInt8) (l : List V) : ∀ {vs : List Value} {bs : List (List UInt8)}, RepL X h vs l → allBytes l = some bs → (vs.any (eqB b) = bs.any fun c => decide (c = b)) ∧ ∀ y ∈ vs, ∃ c t, y = .bytes c t := by
  induction l with
  | nil => intro vs bs r e; rw [r.nil?]; cases e; exact ⟨rfl, fun _ h => nomatch h⟩
  | cons x l ih =>
    intro vs bs r e
    obtain ⟨v, ws, rfl, hv, hs⟩ := r.cons?
    obtain ⟨c, hc, e⟩ := Option.bind_eq_some_iff.mp e
    obtain ⟨bs', e1, rfl⟩ := Option.map_eq_some_iff.mp e
    obtain ⟨t, rfl, _⟩ := hv.bytes? hc
    obtain ⟨i1, i2⟩ := ih hs e1
    refine ⟨?_, fun y hy => (List.mem_cons.mp hy).elim (fun q => ⟨_, _, q⟩) (i2 y)⟩
    rw [List.any_cons, List.any_cons, i1, show eqB b (.bytes c.toArray t) = decide (c = b) from Bool.beq_eq_decide_eq c b]
theorem op_inT : Op2 prog w Rep (compareOp .In) evInT := by
  intro A s X a b x y z Q E hh hu hX ra rb e hQ
  obtain ⟨b, l, hb, hl', e⟩ := on2_some e
  obtain ⟨bs, e1, rfl⟩ := Option.map_eq_some_iff.mp e
  obtain ⟨t, rfl, _⟩ := ra.bytes? hb
  obtain ⟨ad, o, n, vs, rfl, ho, hc, hd, hx, hl, hz⟩ := rb.tup? hl'
  obtain ⟨i1, i2⟩ := allBytes_rep b l hl e1
  refine PySem.SeqAt.in_tupleAt (eqB b) ⟨o, ho, hc, n, hd⟩ (fun y hy => ?_) ?_
  · obtain ⟨c, u, rfl⟩ := i2 y (List.mem_toArray.mp hy)
    exact eqAt_bytes (A := A.in1) (s := s) c b.toArray u t
  · rw [List.any_toArray, i1]
    exact hQ _ s.heap s.toks (StaysIn.refl _) (.bool _)
end
open PySem PySem.W PySem.Calls PyProof.Rows PySem.Spec
section
variable {prog : Program} {w : World}
theorem lkb_int : typeLookup (.type "bytes") "__int__" = pure none := by rw [typeLookup_type, builtinLookup_eq_fast]; kernel_rfl
theorem lkb_index : typeLookup (.type "bytes") "__index__" = pure none := by rw [typeLookup_type, builtinLookup_eq_fast]; kernel_rfl
theorem lkb_trunc : typeLookup (.type "bytes") "__trunc__" = pure none := by rw [typeLookup_type, builtinLookup_eq_fast]; kernel_rfl
set_option maxHeartbeats 4000000 in
open Builtin in
theorem meets_int_digit (t : Tok) :
    Meets («int.__new__» ⟨[.type "int", .bytes #[49] t], []⟩) (fun _ R s => R (.ok (.ret (.int 1 s.toks))) { s with toks := s.toks + 1 }) :=
  .of_wp fun prog w A R s h => by
    obtain ⟨hp, g, dd, tk, os⟩ := s
    have f1 := F.conv_sub_int
    have f2 := F.madeHere_int
    wp_walk using (wpAny_of_eq lkb_int), (wpAny_of_eq lkb_index), (wpAny_of_eq lkb_trunc)
    exact ⟨.int 1 tk, rfl, h⟩
end
open PySem PySem.W PySem.Calls PyProof.Rows PySem.Spec
section
variable {prog : Program} {w : World}
noncomputable def evEqL : V → V → Option V := on2 V.lst? V.lst? fun a b => if b.isEmpty then some (.bool a.isEmpty) else none
theorem op_eqL : Op2 prog w Rep (compareOp .Eq) evEqL := by
  intro A s X a b x y z Q E hh hu hX ra rb e hQ
  obtain ⟨l, l2, ha, hb, e⟩ := on2_some e
  obtain ⟨ad, o, n, vs, rfl, ho, hc, hd, hx, hl, hz⟩ := ra.lst? ha
  obtain ⟨ad2, o2, n2, vs2, rfl, ho2, hc2, hd2, hx2, hl2, hz2⟩ := rb.lst? hb
  have hu : A.units + 3 < cLine := by omega
  cases l2 with
  | cons _ _ => cases e
  | nil =>
    cases e
    cases hl2.nil?
    have h1 : s.heap.IsList ad vs.toArray := ⟨o, ho, hc, n, hd⟩
    have h2 : s.heap.IsList ad2 ([] : List Value).toArray := ⟨o2, ho2, hc2, n2, hd2⟩
    cases l with
    | nil =>
      cases hl.nil?
      exact PySem.SeqAt.eq_listAt (e := fun _ => true) h1 h2 rfl (Nat.lt_of_le_of_lt (Nat.le_add_right _ 3) hu) (fun j hj => absurd hj (Nat.not_lt_zero _)) (hQ _ s.heap s.toks (StaysIn.refl _) (.bool _))
    | cons _ _ =>
      obtain ⟨v, ws, rfl, _, _⟩ := hl.cons?
      exact PySem.SeqAt.eq_list_lengthsAt h1 h2 (bne_iff_ne.mpr (Nat.succ_ne_zero _)) (Nat.lt_of_le_of_lt (Nat.le_add_right _ 3) hu) (hQ _ s.heap s.toks (StaysIn.refl _) (.bool _))
noncomputable def evInt1 : List V → Option V
  | [.bool b] => some (.int (if b then 1 else 0))
  | [.int i] => some (.int i)
  | _ => none
theorem op_int1 : OpL prog w Rep (fun vs => call (.type "int") vs) evInt1 := by
  intro A s X a x z Q E hh hu hX r e hQ
  cases r with
  | nil => cases e
  | cons hv hs =>
    cases hs with
    | cons _ _ => cases hv <;> cases e
    | nil =>
      cases hv <;> cases e
      · exact call_int_bool (hQ _ s.heap _ (StaysIn.refl _) (.int _ _))
      · exact call_int_int (hQ _ s.heap s.toks (StaysIn.refl _) (.int _ _))
noncomputable def evAbs : List V → Option V
  | [.int i] => some (.int (if i < 0 then -i else i))
  | _ => none
theorem op_abs : OpL prog w Rep (fun vs => call (.builtin "abs") vs) evAbs := by
  intro A s X a x z Q E hh hu hX r e hQ
  cases r with
  | nil => cases e
  | cons hv hs =>
    cases hs with
    | cons _ _ => cases hv <;> cases e
    | nil =>
      cases hv <;> cases e
      exact call_abs_int fun u tk => hQ _ s.heap tk (StaysIn.refl _) (.int _ _)
end
section
variable {prog : Program} {w : World} {KK : Frag} {G : Gd KK} {Sy : Type} {R : StRep Sy} {f : Fn} {n : Nat}
noncomputable def eInt1D {Γ : Type} {S : Type} (Fs : Γ → Dn S (List V)) : Γ → Dn S V := fun γ ρ σ => ((Fs γ) ρ σ).bind fun p => (jV (evInt1 p.1)).bind fun v => .ok (v, p.2)
theorem eInt1 {Γ : Type} {γ : Γ} {np pos : Pos} {a : Expr} {x : Str} {Fs : Γ → Den R (List V)} (hl : SndL prog w G R f n pos [a] (Fs γ)) (hxl : x = "int" := by rfl) (e : nsIn KK mainGlobals x = some none := by rfl) (hv : bootBuiltins x = some (.type "int") := by rfl) (hn : x ≠ "__name__" := by decide +kernel)
    (hk : f.cs.kind = .function := by rfl) (hx : f.cs.names.lookup x = some .globalImplicit := by decide +kernel) (hd : (x == ("__debug__" : Str)) = false := by decide +kernel)
    (h1 : ∀ env, starEach [a] env = (false, eval a env) :: starEach [] env := by intro; rfl) (h2 : ∀ env, ((backTo pos (starEach [a] env)).any fun x => x.1) = false := by intro; rfl) :
    jW prog w G R f n (.Call (.Name x np) [a] [] pos) (eInt1D Fs γ) := eTyp op_int1 e hv hn hl hk hx hd h1 h2
noncomputable def eAbsD {Γ : Type} {S : Type} (Fs : Γ → Dn S (List V)) : Γ → Dn S V := fun γ ρ σ => ((Fs γ) ρ σ).bind fun p => (jV (evAbs p.1)).bind fun v => .ok (v, p.2)
theorem eAbs {Γ : Type} {γ : Γ} {np pos : Pos} {a : Expr} {x : Str} {Fs : Γ → Den R (List V)} (hl : SndL prog w G R f n pos [a] (Fs γ)) (hxl : x = "abs" := by rfl) (e : nsIn KK mainGlobals x = some none := by rfl) (hv : bootBuiltins x = some (.builtin "abs") := by rfl) (hn : x ≠ "__name__" := by decide +kernel)
    (hk : f.cs.kind = .function := by rfl) (hx : f.cs.names.lookup x = some .globalImplicit := by decide +kernel) (hd : (x == ("__debug__" : Str)) = false := by decide +kernel)
    (h1 : ∀ env, starEach [a] env = (false, eval a env) :: starEach [] env := by intro; rfl) (h2 : ∀ env, ((backTo pos (starEach [a] env)).any fun x => x.1) = false := by intro; rfl) :
    jW prog w G R f n (.Call (.Name x np) [a] [] pos) (eAbsD Fs γ) := eBlt op_abs e hv hn hl hk hx hd h1 h2
end
open PySem PySem.W PySem.Calls PyProof.Rows PySem.Spec
theorem slot_b_isdigit : Slot "bytes" "isdigit" "bytes.isdigit" :=
  .of (owner := "bytes") (n := "isdigit") (by rw [typeLookup_type, builtinLookup_eq_fast]; kernel_rfl) (by decide +kernel) (by decide +kernel) (by decide +kernel)
    (by first | exact .inl (by decide +kernel) | exact .inr (by decide +kernel)) (by rw [isSubtype_type]; kernel_rfl)
theorem type_b_isdigit : typeOf (.builtin "bytes.isdigit") = pure (.type "method_descriptor") := by show builtinType _ = _; rw [builtinType_eq_fast]; kernel_rfl
theorem entry_b_isdigit : entryFor table "bytes.isdigit" = some Builtin.«bytes.isdigit» := entryFor_of_tree (by kernel_rfl)
theorem args_b_isdigit (a : Value) : argsOk "bytes.isdigit" ⟨[a], []⟩ := by
  unfold argsOk; rw [signature?_of (id := "bytes.isdigit") (n := "isdigit".toList.reverse) (o := ['s', 'e', 't', 'y', 'b']) (by kernel_rfl) FB.owner_bytes]; kernel_rfl
theorem gives_isdigit (b : Array UInt8) (t : Tok) : Gives (Builtin.«bytes.isdigit» ⟨[.bytes b t], []⟩) (.val (.bool (Builtin.Bytes.allOf Builtin.Bytes.isDigit b.toList))) := .of_eq rfl
section
variable {prog : Program} {w : World} {KK : Frag} {G : Gd KK} {Sy : Type} {R : StRep Sy} {f : Fn} {n : Nat}
noncomputable def eMeth0D {Γ : Type} {S : Type} (F : Γ → Dn S V) (ev : V → Option V) : Γ → Dn S V := fun γ ρ σ => ((F γ) ρ σ).bind fun p => (jV (ev p.1)).bind fun v => .ok (v, p.2)
@[simp] theorem eMeth0D_ap {Γ : Type} {S : Type} (F : Γ → Dn S V) (ev : V → Option V) (γ : Γ) (ρ : List V) (σ : S) : (eMeth0D F ev) γ ρ σ = ((F γ) ρ σ).bind fun p => (jV (ev p.1)).bind fun v => .ok (v, p.2) := rfl
theorem eMeth0 {Γ : Type} {γ : Γ} {o : Expr} {name : Str} {apos pos : Pos} {F : Γ → Den R V} {ev : V → Option V} (ho : jW prog w G R f n o (F γ))
    (hop : ∀ (A : Around) (s : Shared) (X : List Addr) (a : Value) (x z : V) (Q : Value → Shared → Prop) (E : Value → Shared → Prop), Rep X s.heap a x → ev x = some z → (∀ vv, Rep X s.heap vv z → Q vv s) → MethodOnS prog w A E name a pos [] Q s)
    (hbase : ∀ env, attributeBase o name env (eval o env) = eval o env := by intro; rfl) (hline : (apos.endLine == pos.line) = true := by rfl) :
    jW prog w G R f n (.Call (.Attribute o name apos) [] [] pos) (eMeth0D F ev γ) := Snd.mk fun L cl A outer s ρ σ Q E hA W K => by
  simp only [eMeth0D_ap] at K
  refine Call_method0 (hbase _) hline (ho.run hA W W .refl K fun v σ₁ vv h₁ tk₁ e₁ W₁ _ S₁ r₁ K₁ => ?_)
  cases e : ev v with
  | none => rw [show ev (v, σ₁.1).1 = none from e] at K₁; exact absurd rfl K₁.ns
  | some z =>
    rw [show ev (v, σ₁.1).1 = some z from e] at K₁
    exact hop A ⟨_, _, _, _, _⟩ (R.foot σ₁) vv v z Q E r₁ e fun vv' r' => K₁.ok _ _ _ _ _ rfl W₁ S₁ r'
noncomputable def evIsdigit : V → Option V
  | .bytes b => some (.bool (Builtin.Bytes.allOf Builtin.Bytes.isDigit b))
  | _ => none
theorem m_isdigit (pos : Pos) (A : Around) (s : Shared) (X : List Addr) (a : Value) (x z : V) (Q : Value → Shared → Prop) (E : Value → Shared → Prop) (r : Rep X s.heap a x) (e : evIsdigit x = some z) (hQ : ∀ vv, Rep X s.heap vv z → Q vv s) : MethodOnS prog w A E "isdigit" a pos [] Q s := by
  cases r <;> cases e
  rename_i b t hz
  exact ⟨"bytes", _, FB.plainAttrs_bytes, slot_b_isdigit, type_b_isdigit, typeIs_bytes _ _ _, (fun _ e => nomatch e), method0_gives slot_b_isdigit entry_b_isdigit (typeIs_bytes _ _ _) (args_b_isdigit _) (gives_isdigit b.toArray t) (by simpa [Made.post] using hQ _ (.bool _))⟩
noncomputable def evIsalpha : V → Option V
  | .str x => some (.bool (Txt.isalpha x))
  | _ => none
theorem m_isalpha (pos : Pos) (A : Around) (s : Shared) (X : List Addr) (a : Value) (x z : V) (Q : Value → Shared → Prop) (E : Value → Shared → Prop) (r : Rep X s.heap a x) (e : evIsalpha x = some z) (hQ : ∀ vv, Rep X s.heap vv z → Q vv s) : MethodOnS prog w A E "isalpha" a pos [] Q s := by
  cases r <;> cases e
  exact SB.isalpha (hQ _ (.bool _))
noncomputable def evChr : List V → Option V
  | [.int i] => if 0 ≤ i ∧ i < 256 then some (.str ⟨#[i.toNat]⟩) else none
  | _ => none
theorem op_chr : OpL prog w Rep (fun vs => call (.builtin "chr") vs) evChr := by
  intro A s X a x z Q E hh hu hX r e hQ
  cases r with
  | nil => cases e
  | cons hv hs =>
    cases hs with
    | cons _ _ => cases hv <;> cases e
    | nil =>
      cases hv <;> try (cases e; done)
      simp only [evChr] at e
      split at e
      · cases e
        exact P.chr_of_int (by simp; omega) (hQ _ s.heap _ (StaysIn.refl _) (.str _ _))
      · cases e
noncomputable def eChrD {Γ : Type} {S : Type} (Fs : Γ → Dn S (List V)) : Γ → Dn S V := fun γ ρ σ => ((Fs γ) ρ σ).bind fun p => (jV (evChr p.1)).bind fun v => .ok (v, p.2)
theorem eChr {Γ : Type} {γ : Γ} {np pos : Pos} {a : Expr} {x : Str} {Fs : Γ → Den R (List V)} (hl : SndL prog w G R f n pos [a] (Fs γ)) (hxl : x = "chr" := by rfl) (e : nsIn KK mainGlobals x = some none := by rfl) (hv : bootBuiltins x = some (.builtin "chr") := by rfl) (hn : x ≠ "__name__" := by decide +kernel)
    (hk : f.cs.kind = .function := by rfl) (hx : f.cs.names.lookup x = some .globalImplicit := by decide +kernel) (hd : (x == ("__debug__" : Str)) = false := by decide +kernel)
    (h1 : ∀ env, starEach [a] env = (false, eval a env) :: starEach [] env := by intro; rfl) (h2 : ∀ env, ((backTo pos (starEach [a] env)).any fun x => x.1) = false := by intro; rfl) :
    jW prog w G R f n (.Call (.Name x np) [a] [] pos) (eChrD Fs γ) := eBlt op_chr e hv hn hl hk hx hd h1 h2
end
open PySem PySem.W PySem.Calls PyProof.Rows PySem.Spec
section
variable {prog : Program} {w : World}
theorem call_int_one {A : Around} {E : Value → Shared → Prop} {s : Shared} {t : Tok} {Q : Value → Shared → Prop} (h : Q (.int 1 s.toks) { s with toks := s.toks + 1 }) : wpAny (model prog w) A (call (.type "int") [.bytes #[49] t]) Q E s :=
  call_int_1 (meets_int_digit t) ⟨rfl, h⟩
noncomputable def evInt2 : List V → Option V
  | [.bytes b] => if b = [49] then some (.int 1) else none
  | _ => none
theorem op_int2 : OpL prog w Rep (fun vs => call (.type "int") vs) evInt2 := by
  intro A s X a x z Q E hh hu hX r e hQ
  cases r with
  | nil => cases e
  | cons hv hs =>
    cases hs with
    | cons _ _ => cases hv <;> cases e
    | nil =>
      cases hv <;> try (cases e; done)
      rename_i b t hz
      simp only [evInt2] at e
      split at e
      · rename_i hb
        subst hb
        cases e
        exact call_int_one (hQ _ s.heap _ (StaysIn.refl _) (.int _ _))
      · cases e
end
section
variable {prog : Program} {w : World} {KK : Frag} {G : Gd KK} {Sy : Type} {R : StRep Sy} {f : Fn} {n : Nat}
noncomputable def eInt2D {Γ : Type} {S : Type} (Fs : Γ → Dn S (List V)) : Γ → Dn S V := fun γ ρ σ => ((Fs γ) ρ σ).bind fun p => (jV (evInt2 p.1)).bind fun v => .ok (v, p.2)
theorem eInt2 {Γ : Type} {γ : Γ} {np pos : Pos} {a : Expr} {x : Str} {Fs : Γ → Den R (List V)} (hl : SndL prog w G R f n pos [a] (Fs γ)) (hxl : x = "int" := by rfl) (e : nsIn KK mainGlobals x = some none := by rfl) (hv : bootBuiltins x = some (.type "int") := by rfl) (hn : x ≠ "__name__" := by decide +kernel)
    (hk : f.cs.kind = .function := by rfl) (hx : f.cs.names.lookup x = some .globalImplicit := by decide +kernel) (hd : (x == ("__debug__" : Str)) = false := by decide +kernel)
    (h1 : ∀ env, starEach [a] env = (false, eval a env) :: starEach [] env := by intro; rfl) (h2 : ∀ env, ((backTo pos (starEach [a] env)).any fun x => x.1) = false := by intro; rfl) :
    jW prog w G R f n (.Call (.Name x np) [a] [] pos) (eInt2D Fs γ) := eTyp op_int2 e hv hn hl hk hx hd h1 h2
end
open PySem PySem.W PySem.Calls PyProof.Rows PySem.Spec
section
variable {prog : Program} {w : World} {KK : Frag} {G : Gd KK} {Sy : Type} {R : StRep Sy} {f : Fn} {n : Nat}
theorem repL_range {X : List Addr} {h : Heap} {a : Int} (l : List Value) : ∀ (k : Nat), (∀ (i : Nat) v, l[i]? = some v → ∃ t, v = .int (a + (k + i : Nat)) t) → RepL X h l ((List.range' k l.length).map fun (j : Nat) => V.int (a + j)) := by
  induction l with
  | nil => exact fun k _ => .nil
  | cons v l ih =>
    intro k hl
    obtain ⟨t, rfl⟩ := hl 0 v rfl
    rw [List.length_cons, List.range'_succ, List.map_cons]
    refine .cons (.int _ _) (ih (k + 1) fun i v hv => ?_)
    obtain ⟨t, rfl⟩ := hl (i + 1) v hv
    exact ⟨t, by rw [show k + (i + 1) = k + 1 + i from (Nat.succ_add_eq_add_succ k i).symm]⟩
noncomputable def eListRangeD {Γ : Type} {S : Type} (Fs : Γ → Dn S (List V)) : Γ → Dn S V := fun γ ρ σ => ((Fs γ) ρ σ).bind fun p => (jV (evRange p.1)).bind fun v => if v.length ≤ 4096 then .ok (.lst v, p.2) else .stuck
theorem eListRange {Γ : Type} {γ : Γ} {x y : Str} {np np2 pos2 pos : Pos} {a : Expr} {as : List Expr} {Fs : Γ → Den R (List V)} (hxl : y = "list") (hxr : x = "range") (el : nsIn KK mainGlobals "list" = some none) (hvl : bootBuiltins "list" = some (.type "list")) (e : nsIn KK mainGlobals "range" = some none) (hv : bootBuiltins "range" = some (.type "range")) (hl : SndL prog w G R f n pos (a :: as) (Fs γ))
    (hk : f.cs.kind = .function) (hx : f.cs.names.lookup x = some .globalImplicit) (hy : f.cs.names.lookup y = some .globalImplicit)
    (h1 : ∀ env, starEach (a :: as) env = (false, eval a env) :: starEach as env := by intro; rfl) (h2 : ∀ env, ((backTo pos (starEach (a :: as) env)).any fun x => x.1) = false := by intro; rfl)
    (h3 : ∀ env, ((backTo pos2 (starEach [.Call (.Name x np) (a :: as) [] pos] env)).any fun x => x.1) = false := by intro; rfl)
    (h4 : ∀ env, starEach [.Call (.Name x np) (a :: as) [] pos] env = (false, eval (.Call (.Name x np) (a :: as) [] pos) env) :: starEach [] env := by intro; rfl) :
    jW prog w G R f n (.Call (.Name y np2) [.Call (.Name x np) (a :: as) [] pos] [] pos2) (eListRangeD Fs γ) := by
  subst hxr hxl
  intro L cl A outer s ρ σ Q E hA W hQ hE hS
  refine wpAny_Call_NameR (name_blt W el hvl (by decide +kernel) ?_ hk hy (by decide +kernel))
  refine PySem.callWith_type (h3 _) ?_
  have hst2 : backTo pos2 (starEach [.Call (.Name (Str.ofString "range") np) (a :: as) [] pos] (f.env L cl)) = (false, eval (.Call (.Name (Str.ofString "range") np) (a :: as) [] pos) (f.env L cl)) :: backTo pos2 (starEach [] (f.env L cl)) := by rw [h4]; rfl
  rw [hst2]
  refine evalArgs_plain ?_
  refine spliced_cons ?_
  refine wpAny_Call_NameR (name_blt W e hv (by decide +kernel) ?_ hk hx (by decide +kernel))
  refine PySem.callWith_type (h2 _) ?_
  have hst : backTo pos (starEach (a :: as) (f.env L cl)) = (false, eval a (f.env L cl)) :: backTo pos (starEach as (f.env L cl)) := by rw [h1]; rfl
  rw [hst]
  refine evalArgs_plain ?_
  rw [← hst]
  refine hl.run (rd' := fun _ _ (_ : Value) _ => True) (Q' := fun _ _ => True) hA W W .refl ⟨fun _ _ _ _ _ _ _ _ _ => trivial, hE, hS⟩ fun v σ₁ vv h₁ tk₁ e₁ W₁ _ S₁ r₁ K₁ => ?_
  obtain ⟨r, hr, hk'⟩ := ofOpt_ne K₁.ns
  have hz : r.length ≤ 4096 := Decidable.byContradiction fun z => K₁.ns (hk'.trans (if_neg z))
  have e2 : eListRangeD Fs γ ρ σ.1 = .ok (.lst r, σ₁.1) := by show ((Fs γ) ρ σ.1).bind _ = _; rw [e₁]; exact hk'.trans (if_pos hz)
  clear K₁ hk' hE hS
  refine call_range (s := ⟨_, _, _, _, _⟩) r₁ hr fun a b t u v' tk ha hb hrr => spliced_nil ?_
  subst hrr
  have st := StaysIn.push h₁ { cls := .type "range", data := .fields #[.int a t, .int b u, .int 1 v'] }
  have hI := IsRange.new h₁ a b 1 t u v'
  show wpAny _ A (call (.type "list") [.ref h₁.objs.size]) Q E { s with heap := h₁.push _, toks := tk }
  generalize h₁.push { cls := .type "range", data := .fields #[.int a t, .int b u, .int 1 v'] } = h₂ at st hI ⊢
  have W₂ := W₁.stays st
  refine call_list_range (s := ⟨_, _, _, _, _⟩) (n := (b - a).toNat) hA.handled hI (small_of ha hb) (by rw [rangeSize_one]; split <;> omega) (by omega) fun h' tk' acc c' hk' hl' hi => ?_
  have st2 : h₂.StaysIn h' := hk'
  refine hQ (.lst (rangeL a b)) σ₁ _ h' tk' e2 (W₂.stays st2) ((S₁.trans W₁ (.of_stays st)).trans W₂ (.of_stays st2)) (.lst (vs := acc.toList) (n := c') hl' rfl rfl (fresh_notin (R.live W₂.cal.rep)) ?_ hz)
  have := repL_range (X := R.foot σ₁) (h := h') (a := a) acc.toList 0 fun i v hv => by
    obtain ⟨t, rfl⟩ := hi.2 i v (by rw [← hv, Array.getElem?_toList])
    exact ⟨t, by rw [Nat.zero_add, Int.mul_one]⟩
  rw [Array.length_toList, hi.1] at this
  rw [rangeL, List.range_eq_range']
  exact this
noncomputable def eRevD {Γ : Type} {S : Type} (Fv : Γ → Dn S V) (Fe : Γ → Dn S V) : Γ → Dn S V := fun γ ρ σ => ((Fv γ) ρ σ).bind fun p => ((Fe γ) ρ p.2).bind fun q => (jV (on2 V.lst? V.int? (fun l i => if i = -1 then some (V.lst l.reverse) else none) p.1 q.1)).bind fun v => .ok (v, q.2)
theorem eRev {Γ : Type} {γ : Γ} {v e : Expr} {p pos : Pos} {Fv Fe : Γ → Den R V} (hv : jW prog w G R f n v (Fv γ)) (he : jW prog w G R f n e (Fe γ)) :
    jW prog w G R f n (.Subscript v (.Slice none none (some e) p) pos) (eRevD Fv Fe γ) := Snd.mk fun L cl A outer s ρ σ Q E hA W K => by
  refine Subscript_ (hv.run hA W W .refl K fun v₁ σ₁ vv₁ h₁ tk₁ e₁ W₁ _ S₁ r₁ K₁ => ?_)
  refine wpAny_Slice (wpAny_evalPart_none (wpAny_evalPart_none (wpAny_evalPart_some ?_)))
  refine he.run (s := ⟨_, _, _, _, _⟩) hA W W₁ S₁ K₁ fun v₂ σ₂ vv₂ h₂ tk₂ e₂ W₂ T₂ S₂ r₂ K₂ => ?_
  clear K K₁
  obtain ⟨z, hz', hu⟩ := ofOpt_ne K₂.ns
  have K₂ := K₂.to hu
  obtain ⟨l, i, hl1, hi1, hz'⟩ := on2_some hz'
  split at hz'
  · rename_i hi
    subst hi
    cases hz'
    obtain ⟨ad, o, nn, vs, rfl, ho, hc, hd, hx, hl, hz⟩ := (T₂.rep W₁ r₁).lst? hl1
    obtain ⟨t, rfl⟩ := r₂.int? hi1
    have st := StaysIn.push h₂ { cls := .type "slice", data := .fields #[.none, .none, .int (-1) t] }
    have hL : h₂.IsList ad vs.toArray := ⟨o, ho, hc, nn, hd⟩
    refine tail_any (Heap.IsList.typeIs (s := ⟨_, _, _, _, _⟩) (hL.push _)) slot_list_getitem.lookup (wpAny_getItem_list_slice (s := ⟨_, _, _, _, _⟩) (hL.push _) (Heap.IsSliceOf.new ..) .none .none (.int (-1) t) (by simp) ?_ (by rw [List.size_toArray, hl.length, sizeLine_eq]; exact Nat.le_trans hz (Nat.le_of_ble_eq_true rfl))) (ops := [.ref ad, .ref _]) rfl
    rw [krv_pick]
    have Wp := W₂.stays st
    have hr := (hl.keep (Keep.of_stays (X := []) st) (Grow.refl (R.foot σ₂) _) fun _ hb => nomatch hb).reverse
    show Q (.ref (h₂.push _).objs.size) { s with heap := (h₂.push _).push _, toks := tk₂ }
    generalize h₂.push { cls := .type "slice", data := .fields #[.none, .none, .int (-1) t] } = h₃ at st Wp hr ⊢
    have st2 := StaysIn.push h₃ { cls := .type "list", data := .seq vs.reverse.toArray }
    exact K₂.ok _ _ _ _ _ rfl (Wp.stays st2) ((S₂.trans W₂ (.of_stays st)).trans Wp (.of_stays st2)) (rep_newLst (R.live Wp.cal.rep) hr (by rw [List.length_reverse]; exact hz))
  · cases hz'
end
open PySem PySem.W PySem.Calls PyProof.Rows PySem.Spec
section
variable {prog : Program} {w : World} {KK : Frag} {G : Gd KK} {Sy Sy' : Type} {R : StRep Sy} {R' : StRep Sy'} {f : Fn} {n : Nat}
theorem Err.down0 {L : Addr} {outer : List Env} {e : Value} {h₀ h h' : Heap} {σ : R.T} {τ : R'.T} (k : Keep (R.foot σ) h₀ h) (g : ∀ d ∈ R'.foot τ, d ∈ R.foot σ ∨ h₀.get? d = none) (x : Err G R' outer L [] h τ e h') : Err G R outer L [] h₀ σ e h' := by
  obtain ⟨⟨a, B, he, hf, hg, hc⟩, hk⟩ := x
  refine ⟨⟨a, B, he, hf, hg, fun b o ho hb hd => ?_⟩, k.trans (X' := R'.foot τ) (fun b hb => g b hb) hk⟩
  obtain ⟨sl, q, z⟩ := k b o ho hb
  have q : _ = some o := (z hd) ▸ q
  exact hc b o q (fun z => (g b z).elim hb fun y => by rw [y] at ho; cases ho) hd
theorem eval_bytes {k : Nat} {b : List UInt8} {pos : Pos} {env : Env} {A : Around} {s : Shared} {Q : Value → Shared → Prop} {E : Value → Shared → Prop} (h : ∀ t tk, Q (.bytes b.toArray t) { s with toks := tk }) : wpAny (model prog w) A (eval (.Constant (.bytes b) k pos) env) Q E s := by
  show wpAny _ A (mkTextBytes b.toArray) Q E s
  exact wpAny_bind (wpAny_fresh (wpAny_pure (h _ _)))
noncomputable def pick3 (k1 k2 k3 : List UInt8) (a b c : V) (x : V) : Res V := (jV x.bytes?).bind fun x => if x = k1 then .ok a else if x = k2 then .ok b else if x = k3 then .ok c else .stuck
structure StpX (R : StRep Sy) (D : Addr) (h : Heap) (σ : R.T) (h' : Heap) (σ' : R.T) : Prop where
  keep : Keep (R.foot σ) h h'
  grow : Grow (R.foot σ) (D :: R.foot σ') h
section
variable {L D : Addr} {cl : Cx} {A : Around} {outer : List Env} {s : Shared} {h₀ h h' : Heap} {ρ : List V} {σ₀ σ σ' : R.T} {P : Obj → Prop}
theorem StpX.trans (S : StpX R D h₀ σ₀ h σ) (T : Stp (Rx R D P) [] h σ h' σ') : StpX R D h₀ σ₀ h' σ' :=
  ⟨S.keep.trans S.grow T.keep, S.grow.trans S.keep T.grow fun b hb => .inl hb⟩
theorem StpX.down (S : StpX R D h₀ σ₀ h σ) : Stp R [] h₀ σ₀ h σ := ⟨S.keep, fun b hb => S.grow b (.tail _ hb)⟩
theorem Snd.runX {α α' β β' : Type} {rd : List Addr → Heap → β → α → Prop} {rd' : List Addr → Heap → β' → α' → Prop} {t : Env → Sem β} {F : Dn Sy α} (hs : Snd prog w G (Rx R D P) f n rd t F) {Q' : β' → Shared → Prop} {E : Value → Shared → Prop} {k : α × Sy → Res (α' × Sy)} {Q : β → Shared → Prop}
    (hA : AOk A outer n) (W : Wf G (Rx R D P) (f.env L cl) f.vars outer s.heap ρ σ) (S : StpX R D h₀ σ₀ s.heap σ) (K : Kont G R f L cl outer rd' h₀ σ₀ ρ s ((F ρ σ.1).bind k) Q' E)
    (h : ∀ v σ₁ vv h₁ tk, F ρ σ.1 = .ok (v, σ₁.1) → Wf G (Rx R D P) (f.env L cl) f.vars outer h₁ ρ σ₁ → Stp (Rx R D P) [] s.heap σ h₁ σ₁ → StpX R D h₀ σ₀ h₁ σ₁ → rd (D :: R.foot σ₁) h₁ vv v → Kont G R f L cl outer rd' h₀ σ₀ ρ { s with heap := h₁, toks := tk } (k (v, σ₁.1)) Q' E → Q vv { s with heap := h₁, toks := tk }) :
    wpAny (model prog w) A (t (f.env L cl)) Q E s :=
  hs L cl A outer s ρ σ Q E hA W
    (fun v σ₁ vv h₁ tk e W₁ T r => h v σ₁ vv h₁ tk e W₁ T (S.trans T) r ⟨fun v' σ' vv' h' tk' e' => K.ok v' σ' vv' h' tk' (by rw [e]; exact e'), fun e₁ h' tk' e' => K.er e₁ h' tk' (by rw [e]; exact e'), fun e' => K.ns (by rw [e]; exact e')⟩)
    (fun e h' tk e₁ x => K.er e h' tk (by rw [e₁]; rfl) (Err.down0 (R' := Rx R D P) (τ := σ) S.keep S.grow x)) (Res.ne_stuck_left K.ns)
theorem Wf.dict {ps qs : List (List UInt8 × Value)} (W : Wf G (Rx R D (fun o => o.IsDictOf (bytesKind prog w) ps)) (f.env L cl) f.vars outer h ρ σ) (hm : h'.DictOf (bytesKind prog w) D qs) (hs : Heap.SameBut D h h') (hDL : D ≠ L) (hDl : D ≠ (f.env L cl).locals) (hg : G.g.get? D = none) :
    Wf G (Rx R D (fun o => o.IsDictOf (bytesKind prog w) qs)) (f.env L cl) f.vars outer h' ρ σ ∧ Stp (Rx R D (fun o => o.IsDictOf (bytesKind prog w) ps)) [] h σ h' σ := by
  have k := hs.extBut
  obtain ⟨oD, hoD, es, ep, hP1, hd, hP2⟩ := W.cal.rep.2.1
  obtain ⟨o5, ho5, es5, ep5, hQ1, hd5, hQ2⟩ := Heap.dictOf_iff.mp hm
  have Wt : Wf G (Rx R D (fun _ => True)) (f.env L cl) f.vars outer h ρ σ := W.reP ⟨oD, hoD, trivial⟩
  have W5 := Wt.other k (.inl (.head _)) (fun o v e z => by rw [hoD] at e; cases e; rw [hd] at z; cases z) hDL hDl (fun o e _ => ⟨o5, ho5, fun vs z => by rw [hd5] at z; cases z⟩) hg
    ⟨R.stable W.cal.rep.1 fun a o e ha => k a o (fun q => ha.elim (fun ha => W.cal.rep.2.2 (q ▸ ha)) fun ⟨hc, xs, m, hd'⟩ => by rw [q, hoD] at e; cases e; rw [hd] at hd'; cases hd') e, ⟨o5, ho5, trivial⟩, W.cal.rep.2.2⟩
  exact ⟨W5.reP ⟨o5, ho5, es5, ep5, hQ1, hd5, hQ2⟩, Keep.of_ext k (.head _), .refl _ _⟩
end
noncomputable def ePickD {Γ : Type} {S : Type} (k1 : List UInt8) (k2 : List UInt8) (k3 : List UInt8) (F1 : Γ → Dn S V) (F2 : Γ → Dn S V) (F3 : Γ → Dn S V) (Fi : Γ → Dn S V) : Γ → Dn S V := fun γ ρ σ => ((F1 γ) ρ σ).bind fun a => ((F2 γ) ρ a.2).bind fun b => ((F3 γ) ρ b.2).bind fun c => ((Fi γ) ρ c.2).bind fun d => (pick3 k1 k2 k3 a.1 b.1 c.1 d.1).bind fun v => .ok (v, d.2)
theorem ePick {Γ : Type} {γ : Γ} {k1 k2 k3 : List UInt8} {c1 c2 c3 : Nat} {p1 p2 p3 dp pos : Pos} {v1 v2 v3 ix : Expr} {F1 F2 F3 Fi : Γ → Den R V}
    (h1 : ∀ D P, jW prog w G (Rx R D P) f n v1 (F1 γ)) (h2 : ∀ D P, jW prog w G (Rx R D P) f n v2 (F2 γ)) (h3 : ∀ D P, jW prog w G (Rx R D P) f n v3 (F3 γ)) (hi : ∀ D P, jW prog w G (Rx R D P) f n ix (Fi γ))
    (hne : k1 ≠ k2 ∧ k1 ≠ k3 ∧ k2 ≠ k3 := by decide) (hs : ∀ o i, subscripted ix false o i = operate [o, i] (getItem o i) := by intro _ _; rfl) :
    jW prog w G R f n (.Subscript (.Dict [some (.Constant (.bytes k1) c1 p1), some (.Constant (.bytes k2) c2 p2), some (.Constant (.bytes k3) c3 p3)] [v1, v2, v3] dp) ix pos)
      (ePickD k1 k2 k3 F1 F2 F3 Fi γ) := Snd.mk fun L cl A outer s ρ σ Q E hA W K => by
  have hfr : s.heap.get? s.heap.objs.size = none := by
    cases q : s.heap.get? s.heap.objs.size with
    | none => rfl
    | some o => exact absurd (Heap.lt_size q) (Nat.lt_irrefl _)
  have st0 := StaysIn.push s.heap { cls := .type "dict", data := .dict #[] }
  refine Subscript_ (wpAny_Dict_pairs (knd := bytesKind prog w) (pairs := [(eval (.Constant (.bytes k1) c1 p1) (f.env L cl), do let x ← eval v1 (f.env L cl); standAt dp; pure x), (eval (.Constant (.bytes k2) c2 p2) (f.env L cl), do let x ← eval v2 (f.env L cl); standAt dp; pure x), (eval (.Constant (.bytes k3) c3 p3) (f.env L cl), do let x ← eval v3 (f.env L cl); standAt dp; pure x)]) rfl (by simp) (Nat.le_of_ble_eq_true rfl) ?_)
  have hD0 := Heap.dictOf_iff.mp (Heap.DictOf.new (knd := bytesKind prog w) s.heap)
  generalize s.heap.push { cls := .type "dict", data := .dict #[] } = H1 at st0 hD0 ⊢
  generalize s.heap.objs.size = D at hfr hD0 ⊢
  have hDL : D ≠ L := fun q => Wf.F_ne W (q ▸ hfr)
  have hDl : D ≠ (f.env L cl).locals := fun q => by obtain ⟨m, o, es, ep, ho, _⟩ := W.ns; rw [← q, hfr] at ho; cases ho
  have hgD : G.g.get? D = none := by
    cases q : G.g.get? D with
    | none => rfl
    | some o => have := W.cal.base _ _ q; rw [hfr] at this; cases this
  have W1 : Wf G (Rx R D (fun o => o.IsDictOf (bytesKind prog w) [])) (f.env L cl) f.vars outer H1 ρ σ := W.aside st0 hfr hD0
  have S1 : StpX R D s.heap σ H1 σ := ⟨Keep.of_stays st0, fun b hb => (List.mem_cons.mp hb).elim (fun q => .inr (q ▸ hfr)) .inl⟩
  clear st0 hD0 hfr W
  have hbk : ∀ (k : List UInt8) t, (bytesKind prog w).is k (.bytes k.toArray t) = true := fun k t => beq_self_eq_true k
  refine evalPairs_cons (eval_bytes fun t1 tk1 => wpAny_bind ?_)
  refine (h1 _ _).runX (s := ⟨_, _, _, _, _⟩) hA W1 S1 ⟨K.ok, K.er, K.ns⟩ fun a σ1 va g2 tk e1 W2 T2 S2 r1 K => wpAny_bind (wpAny_standAt (wpAny_pure ?_))
  refine evalPairs_cons (eval_bytes fun t2 tk2 => wpAny_bind ?_)
  refine (h2 _ _).runX (s := ⟨_, _, _, _, _⟩) hA W2 S2 ⟨K.ok, K.er, K.ns⟩ fun b σ2 vb g3 tk e2 W3 T3 S3 r2 K => wpAny_bind (wpAny_standAt (wpAny_pure ?_))
  refine evalPairs_cons (eval_bytes fun t3 tk3 => wpAny_bind ?_)
  refine (h3 _ _).runX (s := ⟨_, _, _, _, _⟩) hA W3 S3 ⟨K.ok, K.er, K.ns⟩ fun c σ3 vc g4 tk e3 W4 T4 S4 r3 K => wpAny_bind (wpAny_standAt (wpAny_pure (evalPairs_nil ?_)))
  refine ⟨[(k1, va), (k2, vb), (k3, vc)], ⟨hbk _ _, rfl, hbk _ _, rfl, hbk _ _, rfl, trivial⟩, Heap.dictOf_iff.mpr W4.cal.rep.2.1, fun h5 hm hsb => ?_⟩
  have hmg : merged [] [(k1, va), (k2, vb), (k3, vc)] = [(k1, va), (k2, vb), (k3, vc)] := by
    obtain ⟨n1, n2, n3⟩ := hne
    simp [merged, stored, n1, n2, n3]
  rw [hmg] at hm
  clear hmg
  have q1 : valueAt [(k1, va), (k2, vb), (k3, vc)] k1 = some va := by simp [valueAt]
  have q2 : valueAt [(k1, va), (k2, vb), (k3, vc)] k2 = some vb := by simp [valueAt, hne.1]
  have q3 : valueAt [(k1, va), (k2, vb), (k3, vc)] k3 = some vc := by simp [valueAt, hne.2.1, hne.2.2]
  generalize [(k1, va), (k2, vb), (k3, vc)] = ps at hm q1 q2 q3
  obtain ⟨W5, T5⟩ := W4.dict hm hsb hDL hDl hgD
  have ra := T5.rep W4 (T4.rep W3 (T3.rep W2 r1))
  have rb := T5.rep W4 (T4.rep W3 r2)
  have rc := T5.rep W4 r3
  refine (hi D _).runX (s := ⟨_, _, _, _, _⟩) hA W5 (S4.trans T5) ⟨K.ok, K.er, K.ns⟩ fun d σ4 vd g6 tk e4 W6 T6 S6 r4 K => ?_
  obtain ⟨x, hx, hu⟩ := ofOpt_ne (Res.ne_stuck_left K.ns)
  have K := K.to (congrArg (fun r : Res V => r.bind _) hu)
  obtain ⟨tx, rfl, _⟩ := r4.bytes? hx
  have key : ∀ v vv, valueAt ps x = some vv → (if x = k1 then .ok a else if x = k2 then .ok b else if x = k3 then .ok c else .stuck) = Res.ok v → Rep (D :: R.foot σ3) h5 vv v → _ := fun v vv hv hp rv =>
    have hmF : g6.DictOf (bytesKind prog w) D ps := Heap.dictOf_iff.mpr W6.cal.rep.2.1
    tail_any (s := ⟨g6, _, _, tk, _⟩) (value := (.Dict [some (.Constant (.bytes k1) c1 p1), some (.Constant (.bytes k2) c2 p2), some (.Constant (.bytes k3) c3 p3)] [v1, v2, v3] dp)) (slice := ix) (o := .ref D) (i := .bytes x.toArray tx) (Q := Q) (E := E) (A := A) hmF.typeIs slot_dict_getitem.lookup (wpAny_getItem_of (knd := bytesKind prog w) (k := x) (hbk _ _) hmF.mapOf hv (K.ok v σ4 vv g6 _ (by rw [hp]; rfl) W6.weak S6.down ((T6.rep W5 rv).mono fun a ha => .tail _ ha))) (hs _ _)
  by_cases x1 : x = k1
  · exact key a va (x1 ▸ q1) (if_pos x1) ra
  · by_cases x2 : x = k2
    · exact key b vb (x2 ▸ q2) ((if_neg x1).trans (if_pos x2)) rb
    · by_cases x3 : x = k3
      · exact key c vc (x3 ▸ q3) ((if_neg x1).trans ((if_neg x2).trans (if_pos x3))) rc
      · exact absurd (by rw [if_neg x1, if_neg x2, if_neg x3]; rfl) K.ns
end
open PySem PySem.W PySem.Calls PyProof.Rows PySem.Spec
open PySem.SeqAt
section
variable {A : Around} {s : Shared} {X X' : List Addr}
theorem eqAt_to {a b : Value} {c : Bool} (h : EqAt A s a b c) (e : c = true) : EqAt A s a b true := e ▸ h
theorem eqAt_flat {a b : Value} {x : V} (ra : Rep X s.heap a x) (rb : Rep X' s.heap b x) (hx : flat1 x = true) : EqAt A s a b true := by
  cases x with
  | none => cases ra.none_inv; cases rb.none_inv; exact EqAt.same _
  | bool c => cases ra.bool? rfl; cases rb.bool? rfl; exact eqAt_to (EqAt.bool_bool c c) (beq_self_eq_true c)
  | int c => obtain ⟨t, rfl⟩ := ra.int? rfl; obtain ⟨u, rfl⟩ := rb.int? rfl; exact eqAt_to (EqAt.int_int c t c u) (beq_self_eq_true c)
  | bytes c => obtain ⟨t, rfl, _⟩ := ra.bytes? rfl; obtain ⟨u, rfl, _⟩ := rb.bytes? rfl; exact eqAt_to (eqAt_bytes c.toArray c.toArray t u) (by simp)
  | str c => obtain ⟨t, rfl⟩ := ra.str? rfl; obtain ⟨u, rfl⟩ := rb.str? rfl; exact eqAt_to (EqAt.str_str c t c u) (beq_self_eq_true c)
  | _ => cases hx
theorem RepL.both {h : Heap} {vs vs' : List Value} {l : List V} (r : RepL X h vs l) : RepL X' h vs' l → ∀ j (h1 : j < vs.length) (h2 : j < vs'.length), ∃ x, x ∈ l ∧ Rep X h vs[j] x ∧ Rep X' h vs'[j] x :=
  r.ind (P := fun vs l => ∀ vs', RepL X' h vs' l → ∀ j (h1 : j < vs.length) (h2 : j < vs'.length), ∃ x, x ∈ l ∧ Rep X h vs[j] x ∧ Rep X' h vs'[j] x) (fun _ _ j h1 _ => absurd h1 (Nat.not_lt_zero _)) (fun hv _ ih vs' r' j h1 h2 => by
    obtain ⟨v', ws, rfl, hv', hs'⟩ := r'.cons?
    cases j with
    | zero => exact ⟨_, .head _, hv, hv'⟩
    | succ j =>
      obtain ⟨x, hx, q⟩ := ih _ hs' j (Nat.lt_of_succ_lt_succ h1) (Nat.lt_of_succ_lt_succ h2)
      exact ⟨x, .tail _ hx, q⟩) vs'
noncomputable def flat2 : V → Bool
  | .tup l => l.all flat1
  | .lst l => l.all flat1
  | v => flat1 v
theorem both_eq {q : V → Bool} (he : ∀ {a b : Value} {x : V}, Rep X s.heap a x → Rep X' s.heap b x → q x = true → EqAt A.in1 s a b true) {vs vs' : List Value} {l : List V} (r : RepL X s.heap vs l) (r' : RepL X' s.heap vs' l) (hx : l.all q = true) :
    vs.toArray.size = vs'.toArray.size ∧ ∀ j (h1 : j < vs.toArray.size) (h2 : j < vs'.toArray.size), EqAt A.in1 s vs.toArray[j] vs'.toArray[j] ((fun _ => true) j) := by
  refine ⟨by rw [List.size_toArray, List.size_toArray, r.length, r'.length], fun j h1 h2 => ?_⟩
  obtain ⟨x, hm, q1, q2⟩ := r.both r' j h1 h2
  exact he q1 q2 (List.all_eq_true.mp hx x hm)
theorem all_range (n : Nat) : (List.range n).all (fun _ => true) = true := by simp
theorem all_range2 {n m : Nat} (h : n = m) : ((List.range (min n m)).all (fun _ => true) && n == m) = true := by rw [h, all_range, beq_self_eq_true]; rfl
theorem eqAt_flat2 {a b : Value} {x : V} (ra : Rep X s.heap a x) (rb : Rep X' s.heap b x) (hx : flat2 x = true) (hu : A.units < cLine) : EqAt A s a b true := by
  by_cases hab : a = b
  · subst hab; exact EqAt.same _
  cases x with
  | tup l =>
    obtain ⟨a, o, n, vs, rfl, ho, hc, hd, _, hl, _⟩ := ra.tup? rfl
    obtain ⟨b, o', n', vs', rfl, ho', hc', hd', _, hl', _⟩ := rb.tup? rfl
    obtain ⟨e, he⟩ := both_eq (A := A) eqAt_flat hl hl' hx
    exact eqAt_to (EqAt.of_refs (fun z => hab (congrArg Value.ref z)) (RcAt.tuples ⟨o, ho, hc, n, hd⟩ ⟨o', ho', hc', n', hd'⟩ hu he)) (all_range2 e)
  | lst l =>
    obtain ⟨a, o, n, vs, rfl, ho, hc, hd, _, hl, _⟩ := ra.lst? rfl
    obtain ⟨b, o', n', vs', rfl, ho', hc', hd', _, hl', _⟩ := rb.lst? rfl
    obtain ⟨e, he⟩ := both_eq (A := A) eqAt_flat hl hl' hx
    exact eqAt_to (EqAt.of_refs (fun z => hab (congrArg Value.ref z)) (RcAt.lists ⟨o, ho, hc, n, hd⟩ ⟨o', ho', hc', n', hd'⟩ e hu he)) (all_range _)
  | _ => exact eqAt_flat ra rb hx
noncomputable def flat3 : V → Bool
  | .tup l => l.all flat2
  | .none => true
  | .str _ => true
  | _ => false
theorem rcne_to {a b : Value} {c : Bool} (h : RcNeAt A s a b (!c)) (e : c = true) : RcNeAt A s a b false := by rw [e] at h; exact h
theorem rcne_same {a b : Value} {x : V} (ra : Rep X s.heap a x) (rb : Rep X' s.heap b x) (hx : flat3 x = true) (hu : A.units + 3 < cLine) : RcNeAt A s a b false := by
  cases x with
  | none => cases ra.none_inv; cases rb.none_inv; exact RcNeAt.none_none
  | str c => obtain ⟨t, rfl⟩ := ra.str? rfl; obtain ⟨u, rfl⟩ := rb.str? rfl; exact rcne_to (RcNeAt.str_str c t c u) (beq_self_eq_true c)
  | tup l =>
    obtain ⟨a, o, n, vs, rfl, ho, hc, hd, _, hl, _⟩ := ra.tup? rfl
    obtain ⟨b, o', n', vs', rfl, ho', hc', hd', _, hl', _⟩ := rb.tup? rfl
    obtain ⟨e, he⟩ := both_eq (A := A) (fun q1 q2 h => eqAt_flat2 (A := A.in1) q1 q2 h (Nat.lt_of_le_of_lt (show A.units + 1 ≤ A.units + 3 from Nat.le_add_right _ 2) hu)) hl hl' hx
    exact rcne_to (RcNeAt.tuples ⟨o, ho, hc, n, hd⟩ ⟨o', ho', hc', n', hd'⟩ (Nat.lt_of_le_of_lt (Nat.le_add_right _ 3) hu) he) (all_range2 e)
  | _ => cases hx
end
section
variable {prog : Program} {w : World}
noncomputable def evNeL : V → V → Option V := on2 V.lst? V.lst? fun a b => if b.isEmpty then some (.bool (!a.isEmpty)) else none
theorem op_neL : Op2 prog w Rep (compareOp .NotEq) evNeL := by
  intro A s X a b x y z Q E hh hu hX ra rb e hQ
  obtain ⟨l, l2, ha, hb, e⟩ := on2_some e
  obtain ⟨ad, o, n, vs, rfl, ho, hc, hd, hx, hl, hz⟩ := ra.lst? ha
  obtain ⟨ad2, o2, n2, vs2, rfl, ho2, hc2, hd2, hx2, hl2, hz2⟩ := rb.lst? hb
  have hu : A.units + 3 < cLine := by omega
  cases l2 with
  | cons _ _ => cases e
  | nil =>
    cases e
    cases hl2.nil?
    have h1 : s.heap.IsList ad vs.toArray := ⟨o, ho, hc, n, hd⟩
    have h2 : s.heap.IsList ad2 ([] : List Value).toArray := ⟨o2, ho2, hc2, n2, hd2⟩
    cases l with
    | nil =>
      cases hl.nil?
      exact RcNeAt.lists (A := A) (s := s) (e := fun _ => true) h1 h2 rfl (Nat.lt_of_le_of_lt (Nat.le_add_right _ 3) hu) (fun j hj => absurd hj (Nat.not_lt_zero _)) prog w E Q (hQ _ s.heap s.toks (StaysIn.refl _) (.bool _))
    | cons _ _ =>
      obtain ⟨v, ws, rfl, _, _⟩ := hl.cons?
      exact RcNeAt.lists_lengths h1 h2 (bne_iff_ne.mpr (Nat.succ_ne_zero _)) (Nat.lt_of_le_of_lt (Nat.le_add_right _ 3) hu) prog w E Q (hQ _ s.heap s.toks (StaysIn.refl _) (.bool _))
end
open PySem PySem.W PySem.Calls PyProof.Rows PySem.Spec
section
variable {prog : Program} {w : World}
open Builtin Builtin.Bytes in
theorem search_eq (b : Array UInt8) (t u : Tok) : searchArgs .bytes "find" ⟨[.bytes b t, .bytes #[0] u], []⟩ = pure (b, #[0], if (window b.size none none).2 - (window b.size none none).1 < 1 then none else some ((window b.size none none).1.toNat, (window b.size none none).2.toNat)) := by
  unfold searchArgs
  have h1 : ∀ id, selfAndSome id "find" 1 3 ⟨[.bytes b t, .bytes #[0] u], []⟩ = pure (.bytes b t, [.bytes #[0] u]) := fun _ => rfl
  have h2 : bound? ([Value.bytes #[0] u][1]?) = pure none := rfl
  have h3 : bound? ([Value.bytes #[0] u][2]?) = pure none := rfl
  have h4 : payload (.bytes b t) = pure b := rfl
  have h5 : ([Value.bytes #[0] u].headD Value.none) = .bytes #[0] u := rfl
  simp only [h1, h2, h3, h4, h5, KBy.buffer_eq, pure_bind]
  rfl
theorem find_none (b : List UInt8) (h : ∀ c ∈ b, c ≠ 0) (lo hi : Nat) (hh : hi ≤ b.length) : Builtin.Bytes.find? b.toArray #[0] lo hi = none := by
  unfold Builtin.Bytes.find?
  rw [List.find?_eq_none]
  intro i hi'
  simp only [List.mem_map, List.mem_range] at hi'
  obtain ⟨k, hk, rfl⟩ := hi'
  have hk : k + lo < b.length := by simp at hk; omega
  simp only [List.extract_toArray, beq_iff_eq]
  intro e
  have e := congrArg Array.toList e
  simp only [List.extract_eq_take_drop, List.size_toArray, List.length_cons, List.length_nil, Nat.zero_add] at e
  rw [show k + lo + 1 - (k + lo) = 1 by omega] at e
  rw [List.drop_eq_getElem_cons hk] at e
  rw [List.take_succ_cons, List.take_zero] at e
  injection e with e _
  exact h _ (List.getElem_mem hk) e
open Builtin in
theorem wp_find {A : Around} {E : Value → Shared → Prop} {s : Shared} {Q : Value → Shared → Prop} (b : Array UInt8) (t u : Tok) (h0 : ∀ lo hi, hi ≤ b.size → Builtin.Bytes.find? b #[0] lo hi = none) (h : Q (.int (-1) s.toks) { s with toks := s.toks + 1 }) :
    wpAny (model prog w) A («bytes.find» ⟨[.bytes b t, .bytes #[0] u], []⟩) (fun fin s' => ∃ v, fin = .done (.ret v) ∧ Q v s') E s := by
  show wpAny _ _ (Builtin.Bytes.searchM .bytes "find" false false ⟨[.bytes b t, .bytes #[0] u], []⟩) _ _ _
  unfold Builtin.Bytes.searchM
  rw [search_eq, pure_bind]
  have e : ((if (Builtin.Bytes.window b.size none none).2 - (Builtin.Bytes.window b.size none none).1 < 1 then none else some ((Builtin.Bytes.window b.size none none).1.toNat, (Builtin.Bytes.window b.size none none).2.toNat)).bind fun (x : Nat × Nat) => if false = true then Builtin.Bytes.rfind? b #[0] x.1 x.2 else Builtin.Bytes.find? b #[0] x.1 x.2) = none := by
    split
    · rfl
    · simp only [Option.bind_some, Bool.false_eq_true, if_false]
      refine h0 _ _ ?_
      simp [Builtin.Bytes.window]
      omega
  dsimp only
  rw [e]
  obtain ⟨hp, g, dd, tk, os⟩ := s
  wp_walk
  exact ⟨_, rfl, h⟩
theorem slot_b_find : Slot "bytes" "find" "bytes.find" :=
  .of (owner := "bytes") (n := "find") (by rw [typeLookup_type, builtinLookup_eq_fast]; kernel_rfl) (by decide +kernel) (by decide +kernel) (by decide +kernel)
    (by first | exact .inl (by decide +kernel) | exact .inr (by decide +kernel)) (by rw [isSubtype_type]; kernel_rfl)
theorem type_b_find : typeOf (.builtin "bytes.find") = pure (.type "method_descriptor") := by show builtinType _ = _; rw [builtinType_eq_fast]; kernel_rfl
theorem entry_b_find : entryFor table "bytes.find" = some Builtin.«bytes.find» := entryFor_of_tree (by kernel_rfl)
theorem args_b_find (a b : Value) : argsOk "bytes.find" ⟨[a, b], []⟩ := by
  unfold argsOk; rw [signature?_of (id := "bytes.find") (n := "find".toList.reverse) (o := ['s', 'e', 't', 'y', 'b']) (by kernel_rfl) FB.owner_bytes]; kernel_rfl
end
section
variable {prog : Program} {w : World} {KK : Frag} {G : Gd KK} {Sy : Type} {R : StRep Sy} {f : Fn} {n : Nat}
noncomputable def eMeth1D {Γ : Type} {S : Type} (F : Γ → Dn S V) (Fe : Γ → Dn S V) (ev : V → V → Option V) : Γ → Dn S V := fun γ ρ σ => ((F γ) ρ σ).bind fun p => ((Fe γ) ρ p.2).bind fun q => (jV (ev p.1 q.1)).bind fun v => .ok (v, q.2)
theorem eMeth1 {Γ : Type} {γ : Γ} {o e : Expr} {name : Str} {apos pos : Pos} {T id : String} {F Fe : Γ → Den R V} {ev : V → V → Option V} (ho : jW prog w G R f n o (F γ)) (he : jW prog w G R f n e (Fe γ))
    (pa : PlainAttrs T) (slot : Slot T name id) (hty : typeOf (.builtin id) = pure (.type "method_descriptor"))
    (hT : ∀ ρ σ v σ₁, (F γ) ρ σ = .ok (v, σ₁) → (((Fe γ) ρ σ₁).bind fun q => (jV (ev v q.1)).bind fun v => Res.ok (v, q.2)) ≠ .stuck → ∀ (s : Shared) (X : List Addr) (a : Value), Rep X s.heap a v → s.TypeIs a T ∧ (∀ b, a = .ref b → ∃ ob, s.heap.get? b = some ob ∧ ob.dict = none))
    (hop : Op2 prog w Rep (fun a b => call (.builtin id) [a, b]) ev)
    (hbase : ∀ env, attributeBase o name env (eval o env) = eval o env := by intro; rfl) (hs : ∀ env, starEach [e] env = [(false, eval e env)] := by intro; rfl) (hline : (apos.endLine == pos.line) = true := by rfl) :
    jW prog w G R f n (.Call (.Attribute o name apos) [e] [] pos) (eMeth1D F Fe ev γ) := Snd.mk fun L cl A outer s ρ σ Q E hA W K => by
  refine Call_method1 (hbase _) (hs _) hline (ho.run hA W W .refl K fun v σ₁ vv h₁ tk₁ e₁ W₁ _ S₁ r₁ K₁ => ?_)
  obtain ⟨t1, t2⟩ := hT _ _ _ _ e₁ K₁.ns ⟨_, _, _, _, _⟩ _ _ r₁
  refine ⟨T, id, pa, slot, hty, t1, t2, ?_⟩
  refine callWith_builtin rfl ?_
  refine evalArgs_plain (spliced_cons ?_)
  refine he.run (s := ⟨_, _, _, _, _⟩) hA W W₁ S₁ K₁ fun v₂ σ₂ vv₂ h₂ tk₂ e₂ W₂ T₂ S₂ r₂ K₂ => ?_
  refine spliced_nil ?_
  refine hop.run (s := ⟨_, _, _, _, _⟩) hA W₂ S₂ (T₂.rep W₁ r₁) r₂ K₂ fun z vv₃ h₃ tk₃ e₃ W₃ _ S₃ r₃ K₃ => ?_
  exact K₃.ok _ _ _ _ _ rfl W₃ S₃ r₃
noncomputable def evFind : V → V → Option V := on2 V.bytes? V.bytes? fun b c => if c = [0] ∧ (∀ x ∈ b, x ≠ 0) then some (.int (-1)) else none
theorem op_find : Op2 prog w Rep (fun a b => call (.builtin "bytes.find") [a, b]) evFind := by
  intro A s X a b x y z Q E hh hu hX ra rb e hQ
  obtain ⟨b, c, hb, hc, e⟩ := on2_some e
  obtain ⟨t, rfl, _⟩ := ra.bytes? hb
  obtain ⟨u, rfl, _⟩ := rb.bytes? hc
  split at e
  · rename_i h
    cases e
    obtain ⟨rfl, h⟩ := h
    exact wpAny_call_entry slot_b_find (typeIs_bytes _ _ _) entry_b_find (wp_find _ _ _ (fun lo hi hh => find_none b h lo hi (by simpa using hh)) (hQ _ s.heap _ (StaysIn.refl _) (.int _ _))) (args_b_find _ _)
  · cases e
end
open PySem PySem.W PySem.Calls PyProof.Rows PySem.Spec
theorem range_list' {β : Type} (n : Nat) (b : β) (f : Nat → β → Sem (ForInStep β)) : forIn [0:n] b f = forIn (List.range' 0 n 1) b f := by
  rw [Std.Legacy.Range.forIn_eq_forIn_range']
  have hsz : ([:n] : Std.Legacy.Range).size = n := by simp [Std.Legacy.Range.size]
  show forIn (List.range' 0 ([:n] : Std.Legacy.Range).size 1) b f = _
  rw [hsz]
section
variable {prog : Program} {w : World}
open Builtin Builtin.Bytes in
theorem takeQuiet_eq {id : String} {b : Array UInt8} {t : Tok} : Builtin.Bytes.takeBufferQuiet? id (.bytes b t) 0 = pure (some (b, none)) := by
  unfold Builtin.Bytes.takeBufferQuiet? Builtin.Bytes.takeBuffer?
  rw [KBy.special_eq KBy.look_buffer, KBy.own_buffer]
  simp only [pure_bind]
  kernel_rfl
theorem letGo_none : ∀ (l : List (Value × Option Value)) (hl : ∀ p ∈ l, p.1.onHeap = false ∧ p.2 = none) {A : Around} {E : Value → Shared → Prop} {s : Shared} {Q : Unit → Shared → Prop} (keep : List Value) (h : Q () s), 
    wpAny (model prog w) A (Builtin.Bytes.joinLetGo l keep) Q E s
  | [], hl, _, _, _, _, keep, h => wpAny_pure h
  | (x, u) :: rest, hl, A, E, s, Q, keep, h => by
    obtain ⟨h1, h2⟩ := hl _ (.head _)
    simp only at h1 h2
    subst h2
    unfold Builtin.Bytes.joinLetGo
    dsimp only
    exact wpAny_bind (wpAny_letGo (letGo_none rest (fun p hp => hl p (.tail _ hp)) keep h))
noncomputable abbrev JS := Array (Array UInt8) × List (Value × Option Value)
noncomputable def JT (taken : List (Value × Option Value)) : Prop := ∀ p ∈ taken, p.1.onHeap = false ∧ p.2 = none
theorem JT.snoc {taken : List (Value × Option Value)} {b : Array UInt8} {u : Tok} (h : JT taken) : JT (taken ++ [(.bytes b u, none)]) := fun p hp => by
  rcases List.mem_append.mp hp with hp | hp
  · exact h p hp
  · rw [List.mem_singleton.mp hp]; exact ⟨rfl, rfl⟩
inductive BsAre : List Value → List (List UInt8) → Prop
  | nil : BsAre [] []
  | cons (b : List UInt8) (u : Tok) (vs : List Value) (bs : List (List UInt8)) : BsAre vs bs → BsAre (.bytes b.toArray u :: vs) (b :: bs)
theorem BsAre.length {vs : List Value} {l : List (List UInt8)} (h : BsAre vs l) : vs.length = l.length := by
  induction h with
  | nil => rfl
  | cons b u vs bs h ih => exact congrArg (· + 1) ih
theorem BsAre.get {vs : List Value} {l : List (List UInt8)} (h : BsAre vs l) : ∀ {k : Nat}, k < vs.length → ∃ (b : List UInt8) (u : Tok), l[k]? = some b ∧ vs[k]? = some (.bytes b.toArray u) := by
  induction h with
  | nil => exact fun h => absurd h (Nat.not_lt_zero _)
  | cons b u vs bs h ih =>
    intro k hk
    cases k with
    | zero => exact ⟨b, u, rfl, rfl⟩
    | succ k => exact ih (Nat.lt_of_succ_lt_succ hk)
theorem BsAre.at_ {vs : List Value} {l : List (List UInt8)} (h : BsAre vs l) : ∀ {i : Nat} {b : List UInt8}, l[i]? = some b → ∃ u, vs[i]? = some (.bytes b.toArray u) := by
  induction h with
  | nil => exact fun e => by cases e
  | cons b u vs bs h ih =>
    intro i c e
    cases i with
    | zero => cases e; exact ⟨u, rfl⟩
    | succ i => exact ih e
theorem BsAre.one {v : Value} {l : List (List UInt8)} (h : BsAre [v] l) : ∃ u, v = .bytes l.flatten.toArray u := by
  cases h with
  | cons b u vs bs h => cases h; exact ⟨u, by rw [List.flatten_cons, List.flatten_nil, List.append_nil]⟩
inductive JI (l : List (List UInt8)) (n : Nat) (s : Shared) : List Nat → JS → Shared → Prop
  | mk (k m : Nat) (rest : List Nat) (parts : Array (Array UInt8)) (taken : List (Value × Option Value)) (hr : rest = List.range' k m 1) (hk : k + m = n) (hp : parts = ((l.take k).map List.toArray).toArray) (ht : JT taken) : JI l n s rest (parts, taken) s
theorem parts_push {l : List (List UInt8)} {k : Nat} {b : List UInt8} (h : l[k]? = some b) : ((l.take k).map List.toArray).toArray.push b.toArray = ((l.take (k + 1)).map List.toArray).toArray := by
  refine Array.ext' ?_
  rw [List.take_add_one, h, Array.toList_push, List.map_append]; rfl
theorem join_loop {A : Around} {E : Value → Shared → Prop} {s : Shared} {l : List (List UInt8)} {vs : List Value} (B : BsAre vs l) {P : JS → Shared → Prop} (f : Nat → JS → Sem (ForInStep JS))
    (hf : ∀ (k : Nat) (b : List UInt8) (u : Tok) (parts : Array (Array UInt8)) (taken : List (Value × Option Value)) (Q : ForInStep JS → Shared → Prop), JT taken → vs[k]? = some (.bytes b.toArray u) → Q (.yield (parts.push b.toArray, taken ++ [(.bytes b.toArray u, none)])) s → wpAny (model prog w) A (f k (parts, taken)) Q E s)
    (hP : ∀ taken, JT taken → P ((l.map List.toArray).toArray, taken) s) : wpAny (model prog w) A (forIn [0:vs.toArray.size] (#[], []) f) P E s := by
  have hn := B.length
  have er : forIn [0:vs.toArray.size] ((#[], []) : Array (Array UInt8) × List (Value × Option Value)) f = forIn (List.range' 0 vs.toArray.size 1) (#[], []) f := range_list' _ _ _
  rw [er, List.size_toArray]
  refine wpAny_forIn_list f (JI l vs.length s) P ?_ ?_ _ _ (.mk 0 vs.length _ _ _ rfl (Nat.zero_add _) rfl fun p hp => nomatch hp)
  · rintro x rest st s' ⟨k, m, _, parts, taken, hr, hk, hp, ht⟩
    cases m with
    | zero => cases hr
    | succ m =>
    cases hr
    obtain ⟨b, u, hb, hu⟩ := B.get (k := x) (by omega)
    exact hf x b u parts taken _ ht hu (.mk (x + 1) m _ _ _ rfl ((Nat.succ_add_eq_add_succ _ _).trans hk) (hp ▸ parts_push hb) ht.snoc)
  · rintro st s' ⟨k, m, _, parts, taken, hr, hk, hp, ht⟩
    cases m with
    | succ m => cases hr
    | zero =>
    rw [hp, List.take_of_length_le (show l.length ≤ k from Nat.le_of_eq (hn.symm.trans hk.symm))]
    exact hP _ ht
theorem joined_go (l : List (List UInt8)) : ∀ (k : Nat) (acc : Array UInt8), ((l.map List.toArray).zipIdx k).foldl (fun out (p : Array UInt8 × Nat) => (if p.2 > 0 then out ++ #[] else out) ++ p.1) acc = acc ++ l.flatten.toArray := by
  induction l with
  | nil => intro k acc; simp
  | cons x l ih =>
    intro k acc
    rw [List.map_cons, List.zipIdx_cons, List.foldl_cons, ih]
    simp
theorem joined_nil (l : List (List UInt8)) : Builtin.Bytes.joined #[] (l.map List.toArray) = l.flatten.toArray := by
  have := joined_go l 0 #[]
  simp only [Array.empty_append] at this
  exact this
theorem sum_go (l : List (List UInt8)) : ∀ k : Nat, (l.map List.toArray).foldl (fun x1 (x2 : Array UInt8) => x1 + x2.size) k = k + l.flatten.length := by
  induction l with
  | nil => intro k; rfl
  | cons x l ih =>
    intro k
    rw [List.map_cons, List.foldl_cons, ih]
    simp; omega
open Builtin Builtin.Bytes in
theorem join_end {t : Tok} {A : Around} {E : Value → Shared → Prop} {s : Shared} {Q : Value → Shared → Prop} (l : List (List UInt8)) (hz : l.flatten.length ≤ 4096) (taken : List (Value × Option Value)) (ht : JT taken) (T : Sem Unit) (K : Unit → Sem PySem.Fin)
    (h : ∀ tk u, Q (.bytes l.flatten.toArray u) { s with toks := tk }) :
    wpAny (model prog w) A ((payload (.bytes #[] t) : Sem (Array UInt8)) >>= fun sep => if tooLong (Array.foldl (fun x1 x2 => x1 + x2.size) (sep.size * ((l.map List.toArray).toArray.size - 1)) (l.map List.toArray).toArray) = true then T >>= K else do
          let result ← Kind.bytes.new (joined sep (List.map List.toArray l).toArray.toList)
          holding (result :: List.flatMap (fun x => x.fst :: x.snd.toList) taken) point
          joinLetGo taken [result]
          ret result) (fun fin s' => ∃ v, fin = .done (.ret v) ∧ Q v s') E s := by
  have e1 : (payload (.bytes #[] t) : Sem (Array UInt8)) = pure #[] := rfl
  rw [e1, pure_bind]
  have e2 : tooLong (Array.foldl (fun x1 x2 => x1 + x2.size) ((#[] : Array UInt8).size * ((l.map List.toArray).toArray.size - 1)) (l.map List.toArray).toArray) = false := by
    refine KBy.tooLong_not ?_
    have := sum_go l 0
    simp only [List.foldl_toArray, Array.size_empty, Nat.zero_mul] at this ⊢
    omega
  rw [e2, if_neg (by decide)]
  show wpAny _ _ (mkBytes (joined #[] (List.map List.toArray l)) >>= _) _ _ _
  rw [joined_nil]
  refine wpAny_bind (wpAny_mkBytes ?_ (by rw [sizeLine_eq, List.size_toArray]; omega))
  · refine wpAny_bind (wpAny_holding (wpAny_point ?_))
    refine wpAny_bind (letGo_none taken ht _ ?_)
    exact wpAny_pure ⟨_, rfl, h _ _⟩
theorem joinItems_list {A : Around} {E : Value → Shared → Prop} {s : Shared} {Q : Value → Shared → Prop} {a : Addr} (hT : s.TypeIs (.ref a) "list") (h : Q (.ref a) s) : wpAny (model prog w) A (Builtin.Bytes.joinItems (.ref a)) Q E s := by
  unfold Builtin.Bytes.joinItems
  refine wpAny_bind (wpAny_typeOf hT ?_)
  rw [if_pos (show (Value.type "list" == Value.type "list" || Value.type "list" == Value.type "tuple") = true from rfl)]
  exact wpAny_pure h
theorem getD_of {vs : List Value} {k : Nat} {v : Value} (h : vs[k]? = some v) : vs.toArray.getD k Value.none = v := by
  rw [Array.getD_eq_getD_getElem?, List.getElem?_toArray, h]; rfl
theorem quiet_any {taken : List (Value × Option Value)} (h : JT taken) : (Builtin.Bytes.Kind.bytes == Builtin.Bytes.Kind.bytearray || taken.any fun x => x.fst.onHeap) = false := by
  rw [show (Builtin.Bytes.Kind.bytes == Builtin.Bytes.Kind.bytearray) = false from rfl, Bool.false_or, List.any_eq_false]
  intro p hp
  rw [(h p hp).1]; decide
theorem wp_if_pos {α : Type} {c : Prop} [Decidable c] {t e : Sem α} {A : Around} {Q : α → Shared → Prop} {E : Value → Shared → Prop} {s : Shared} (hc : c) (h : wpAny (model prog w) A t Q E s) : wpAny (model prog w) A (if c then t else e) Q E s := (if_pos hc).symm ▸ h
theorem wp_if_neg {α : Type} {c : Prop} [Decidable c] {t e : Sem α} {A : Around} {Q : α → Shared → Prop} {E : Value → Shared → Prop} {s : Shared} (hc : ¬c) (h : wpAny (model prog w) A e Q E s) : wpAny (model prog w) A (if c then t else e) Q E s := (if_neg hc).symm ▸ h
set_option maxHeartbeats 4000000 in
open Builtin Builtin.Bytes in
theorem wp_join {A : Around} {E : Value → Shared → Prop} {s : Shared} {Q : Value → Shared → Prop} (a : Addr) (t : Tok) (l : List (List UInt8)) (vs : List Value) (hl : s.heap.IsList a vs.toArray) (B : BsAre vs l) (hz : l.flatten.length ≤ 4096)
    (h : ∀ tk u, Q (.bytes l.flatten.toArray u) { s with toks := tk }) :
    wpAny (model prog w) A («bytes.join» ⟨[.bytes #[] t, .ref a], []⟩) (fun fin s' => ∃ v, fin = .done (.ret v) ∧ Q v s') E s := by
  have e1 : ∀ id : String, selfAndOne id (⟨[.bytes #[] t, .ref a], []⟩ : Args) = pure (.bytes #[] t, .ref a) := fun _ => rfl
  obtain ⟨o, ho, hc, n, hd⟩ := hl
  show wpAny _ _ (Builtin.Bytes.joinM .bytes ⟨[.bytes #[] t, .ref a], []⟩) _ _ _
  unfold Builtin.Bytes.joinM
  refine wpAny_bind (wpAny_of_eq (e1 _) (wp_if_pos rfl (wpAny_bind (joinItems_list ⟨o, ho, hc⟩ (wpAny_bind (wpAny_seqItems ho hd (wp_if_pos rfl ?_)))))))
  cases vs with
  | nil => exact wpAny_bind (join_loop B _ (fun k b u parts taken Q ht hk q => nomatch hk) fun taken ht => join_end l hz taken ht _ _ h)
  | cons x r =>
  cases r with
  | nil =>
    obtain ⟨u, rfl⟩ := B.one
    exact wpAny_bind (wpAny_typeOf (typeIs_bytes _ _ _) (wp_if_pos rfl (wpAny_bind (wpAny_rule (wpAny_pure ⟨_, rfl, h s.toks _⟩)))))
  | cons y r =>
    refine wpAny_bind (join_loop B _ (fun k b u parts taken Q ht hk q => ?_) fun taken ht => join_end l hz taken ht _ _ h)
    refine wpAny_bind (wpAny_seqItems ho hd (wp_if_neg (Bool.eq_false_iff.mp (quiet_any ht)) ?_))
    have ex := getD_of hk
    generalize (x :: y :: r).toArray.getD k Value.none = z at ex ⊢
    subst ex
    refine wpAny_bind (wpAny_holding (wpAny_of_eq takeQuiet_eq (wpAny_bind (wpAny_seqItems ho hd (wp_if_neg ?_ (wpAny_pure q))))))
    rw [bne_self_eq_false]; exact Bool.false_ne_true
theorem slot_b_join : Slot "bytes" "join" "bytes.join" :=
  .of (owner := "bytes") (n := "join") (by rw [typeLookup_type, builtinLookup_eq_fast]; kernel_rfl) (by decide +kernel) (by decide +kernel) (by decide +kernel)
    (by first | exact .inl (by decide +kernel) | exact .inr (by decide +kernel)) (by rw [isSubtype_type]; kernel_rfl)
theorem type_b_join : typeOf (.builtin "bytes.join") = pure (.type "method_descriptor") := by show builtinType _ = _; rw [builtinType_eq_fast]; kernel_rfl
theorem entry_b_join : entryFor table "bytes.join" = some Builtin.«bytes.join» := entryFor_of_tree (by kernel_rfl)
theorem args_b_join (a b : Value) : argsOk "bytes.join" ⟨[a, b], []⟩ := by
  unfold argsOk; rw [signature?_of (id := "bytes.join") (n := "join".toList.reverse) (o := ['s', 'e', 't', 'y', 'b']) (by kernel_rfl) FB.owner_bytes]; kernel_rfl
noncomputable def bytesL : List V → Option (List (List UInt8))
  | [] => some []
  | x :: l => x.bytes?.bind fun b => (bytesL l).map (b :: ·)
noncomputable def evJoin : V → V → Option V := on2 V.bytes? V.lst? fun b l => bif b.isEmpty then (bytesL l).bind fun bs => if bs.flatten.length ≤ 4096 then some (.bytes bs.flatten) else none else none
theorem evJoin_inv {b : List UInt8} {l : List V} {z : V} (e : (bif b.isEmpty then (bytesL l).bind fun bs => if bs.flatten.length ≤ 4096 then some (V.bytes bs.flatten) else none else none) = some z) : ∃ bs, b = [] ∧ bytesL l = some bs ∧ bs.flatten.length ≤ 4096 ∧ z = .bytes bs.flatten := by
  cases b with
  | cons _ _ => cases e
  | nil =>
    obtain ⟨bs, hb, e⟩ := Option.bind_eq_some_iff.mp e
    by_cases hz : bs.flatten.length ≤ 4096
    · exact ⟨bs, rfl, hb, hz, (Option.some.inj ((if_pos hz).symm.trans e)).symm⟩
    · exact nomatch (if_neg hz).symm.trans e
theorem bytesL_rep {X : List Addr} {h : Heap} {l : List V} : ∀ {vs : List Value} {bs : List (List UInt8)}, RepL X h vs l → bytesL l = some bs → BsAre vs bs := by
  induction l with
  | nil => intro vs bs r e; cases e; rw [r.nil?]; exact .nil
  | cons x l ih =>
    intro vs bs r e
    obtain ⟨v, ws, rfl, r, rl⟩ := r.cons?
    obtain ⟨b, hb, e⟩ := Option.bind_eq_some_iff.mp e
    obtain ⟨t, rfl, _⟩ := r.bytes? hb
    obtain ⟨bs', hb', rfl⟩ := Option.map_eq_some_iff.mp e
    exact .cons b t _ _ (ih rl hb')
theorem op_join : Op2 prog w Rep (fun a b => call (.builtin "bytes.join") [a, b]) evJoin := by
  intro A s X a b x y z Q E hh hu hX ra rb e hQ
  obtain ⟨b', l, h1, h2, e⟩ := on2_some e
  obtain ⟨bs, rfl, hb, hz, rfl⟩ := evJoin_inv e
  obtain ⟨t, rfl, _⟩ := ra.bytes? h1
  obtain ⟨ad, o, n, vs, rfl, ho, hc, hd, _, hl, _⟩ := rb.lst? h2
  exact wpAny_call_entry slot_b_join (typeIs_bytes _ _ _) entry_b_join (wp_join ad t bs vs ⟨o, ho, hc, n, hd⟩ (bytesL_rep hl hb) hz fun tk u => hQ _ s.heap _ (StaysIn.refl _) (.bytes _ _ hz)) (args_b_join _ _)
end
section
variable {Γ S : Type} {γ : Γ} {P : Res ((Out × List V) × S) → Prop} {T Ts : Γ → Dn S Bool} {A B K : Γ → Dn S (Out × List V)} {F Fl Fr : Γ → Dn S V} {Fs : Γ → Dn S (List V)} {ρ l : List V} {σ σ₁ σ₂ : S} {v x y : V} {xs : List V} {i : Nat} {ev : V → V → Option V} {b c : Bool} {r : Res (V × S)}
theorem g_t (h : T γ ρ σ = .ok (true, σ₁)) (a : P (jO A K γ ρ σ₁)) : P (jO (sIfD T A B) K γ ρ σ) := by
  show P (((T γ ρ σ).bind _).bind _); rw [h]; exact a
theorem g_f (h : T γ ρ σ = .ok (false, σ₁)) (a : P (jO B K γ ρ σ₁)) : P (jO (sIfD T A B) K γ ρ σ) := by
  show P (((T γ ρ σ).bind _).bind _); rw [h]; exact a
theorem g_b (b : Bool) (h : T γ ρ σ = .ok (b, σ₁)) (a : b = true → P (jO A K γ ρ σ₁)) (d : b = false → P (jO B K γ ρ σ₁)) : P (jO (sIfD T A B) K γ ρ σ) := by
  cases b
  · exact g_f h (d rfl)
  · exact g_t h (a rfl)
theorem g_if (p : Prop) [Decidable p] (h : T γ ρ σ = .ok (decide p, σ₁)) (a : p → P (jO A K γ ρ σ₁)) (d : ¬p → P (jO B K γ ρ σ₁)) : P (jO (sIfD T A B) K γ ρ σ) :=
  g_b _ h (fun e => a (of_decide_eq_true e)) (fun e => d (of_decide_eq_false e))
theorem dec_cast (n k : Nat) : decide ((n : Int) = (k : Int)) = decide (n = k) := decide_eq_decide.mpr Int.ofNat_inj
theorem dec_cast_lt (n k : Nat) : decide ((n : Int) < (k : Int)) = decide (n < k) := decide_eq_decide.mpr Int.ofNat_lt
theorem g_eq (n k : Nat) (h : T γ ρ σ = .ok (decide ((n : Int) = (k : Int)), σ₁)) (a : n = k → P (jO A K γ ρ σ₁)) (d : ¬n = k → P (jO B K γ ρ σ₁)) : P (jO (sIfD T A B) K γ ρ σ) :=
  g_if _ (h.trans (by rw [dec_cast])) a d
theorem dec_cast_le (n k : Nat) : decide ((n : Int) ≤ (k : Int)) = decide (n ≤ k) := decide_eq_decide.mpr Int.ofNat_le
theorem g_le (n k : Nat) (h : T γ ρ σ = .ok (decide ((n : Int) ≤ (k : Int)), σ₁)) (a : n ≤ k → P (jO A K γ ρ σ₁)) (d : ¬n ≤ k → P (jO B K γ ρ σ₁)) : P (jO (sIfD T A B) K γ ρ σ) :=
  g_if _ (h.trans (by rw [dec_cast_le])) a d
theorem g_ne (n k : Nat) (h : T γ ρ σ = .ok (!decide ((n : Int) = (k : Int)), σ₁)) (a : ¬n = k → P (jO A K γ ρ σ₁)) (d : n = k → P (jO B K γ ρ σ₁)) : P (jO (sIfD T A B) K γ ρ σ) :=
  g_b _ (h.trans (by rw [dec_cast])) (fun e => a (of_decide_eq_false ((Bool.not_eq_true' _).mp e))) (fun e => d (of_decide_eq_true ((Bool.not_eq_false' _).mp e)))
theorem g_raise (h : F γ ρ σ = .ok (v, σ₁)) (a : P .err) : P (jO (sRzD F) K γ ρ σ) := by
  show P (((F γ ρ σ).bind _).bind _); rw [h]; exact a
theorem jE {F₁ F₂ : Γ → Dn S (Out × List V)} (a : P (jO F₁ (jO F₂ K) γ ρ σ)) : P (jO (jO F₁ F₂) K γ ρ σ) := by
  have e : jO (jO F₁ F₂) K γ ρ σ = jO F₁ (jO F₂ K) γ ρ σ := by
    show ((F₁ γ ρ σ).bind _).bind _ = (F₁ γ ρ σ).bind _
    cases F₁ γ ρ σ with
    | stuck => rfl
    | err => rfl
    | ok p => obtain ⟨⟨o, ρ'⟩, σ'⟩ := p; cases o <;> rfl
  rw [e]; exact a
theorem jL (a : P (K γ ρ σ)) : P (jO bNilD K γ ρ σ) := a
theorem kC (h : F γ ρ σ = .ok (v, σ₁)) (a : P (K γ (ρ.set i v) σ₁)) : P (jO (sSetD F i) K γ ρ σ) := by
  show P (((F γ ρ σ).bind _).bind _); rw [h]; exact a
theorem g_aug (v : V) (hx : getv ρ i = .ok x) (h : F γ ρ σ = .ok (y, σ₁)) (e : ev x y = some v) (a : P (K γ (ρ.set i v) σ₁)) : P (jO (sAugD F ev i) K γ ρ σ) := by
  show P (((getv ρ i).bind _).bind _); rw [hx]; show P (((F γ ρ σ).bind _).bind _); rw [h]; show P (((jV (ev x y)).bind _).bind _); rw [e]; exact a
theorem e_tup2 (h1 : Fl γ ρ σ = .ok (x, σ₁)) (h2 : Fr γ ρ σ₁ = .ok (y, σ₂)) : tupleD (jM Fl (jM Fr lNilD)) γ ρ σ = .ok (.tup [x, y], σ₂) := by
  show ((Fl γ ρ σ).bind _).bind _ = _; rw [h1]; show (((Fr γ ρ σ₁).bind _).bind _).bind _ = _; rw [h2]; rfl
theorem e_tup3 {Ft : Γ → Dn S V} {z : V} (h1 : Fl γ ρ σ = .ok (x, σ)) (h2 : Fr γ ρ σ = .ok (y, σ)) (h3 : Ft γ ρ σ = .ok (z, σ)) : tupleD (jM Fl (jM Fr (jM Ft lNilD))) γ ρ σ = .ok (.tup [x, y, z], σ) := by
  show ((Fl γ ρ σ).bind _).bind _ = _; rw [h1]; show (((Fr γ ρ σ).bind _).bind _).bind _ = _; rw [h2]; show ((((Ft γ ρ σ).bind _).bind _).bind _).bind _ = _; rw [h3]; rfl
theorem g_set2 {a b : Str} {j : Nat} (h1 : Fl γ ρ σ = .ok (x, σ₁)) (h2 : Fr γ ρ σ₁ = .ok (y, σ₂)) (k : P (K γ ((ρ.set j y).set i x) σ₂)) : P (jO (sSetWD (tupleD (jM Fl (jM Fr lNilD))) [(a, i), (b, j)]) K γ ρ σ) := by
  show P (((tupleD _ γ ρ σ).bind _).bind _); rw [e_tup2 h1 h2]; exact k
theorem jQ (h : F γ ρ σ = .ok (v, σ₁)) (a : P (.ok ((.ret v, ρ), σ₁))) : P (jO (sRetD F) K γ ρ σ) := by
  show P (((F γ ρ σ).bind _).bind _); rw [h]; exact a
theorem g_cont (a : P (.ok ((.cont, ρ), σ))) : P (jO sContD K γ ρ σ) := a
theorem dec_and2e (a b c d : Nat) : (decide ((a : Int) = (b : Int)) && decide ((c : Int) = (d : Int))) = decide (a = b ∧ c = d) := by
  rw [dec_cast, dec_cast, Bool.decide_and]
theorem g_setT {i j : Nat} (h : F γ ρ σ = .ok (.tup [x, y], σ₁)) (k : P (K γ ((ρ.set i x).set j y) σ₁)) : P (jO (sSetTD F i j) K γ ρ σ) := by
  show P (((F γ ρ σ).bind _).bind _); rw [h]; exact k
theorem g_setTE {i j : Nat} (h : F γ ρ σ = .err) (a : P .err) : P (jO (sSetTD F i j) K γ ρ σ) := by
  show P (((F γ ρ σ).bind _).bind _); rw [h]; exact a
theorem g_expr (h : F γ ρ σ = .ok (v, σ₁)) (a : P (K γ ρ σ₁)) : P (jO (sExprD F) K γ ρ σ) := by
  show P (((F γ ρ σ).bind _).bind _); rw [h]; exact a
theorem jJ (hl : Fl γ ρ σ = .ok (x, σ₁)) (hr : Fr γ ρ σ₁ = .ok (y, σ₂)) (e : ev x y = some (.bool b)) : tcmpD Fl Fr ev γ ρ σ = .ok (b, σ₂) := by
  show (Fl γ ρ σ).bind _ = _; rw [hl]; show (Fr γ ρ σ₁).bind _ = _; rw [hr]; show (jV (ev x y)).bind _ = _; rw [e]; rfl
theorem t_chain {x y z : V} {b b' : Bool} {Fa Fb : Γ → Dn S V} {ev₁ ev₂ : V → V → Option V} (h1 : Fl γ ρ σ = .ok (x, σ)) (h2 : Fa γ ρ σ = .ok (y, σ)) (h3 : Fb γ ρ σ = .ok (z, σ)) (e1 : ev₁ x y = some (.bool b)) (e2 : ev₂ y z = some (.bool b')) : tchainD Fl Fa Fb ev₁ ev₂ γ ρ σ = .ok (b && b', σ) := by
  show (Fl γ ρ σ).bind _ = _; rw [h1]; show (Fa γ ρ σ).bind _ = _; rw [h2]; show (jV (ev₁ x y)).bind _ = _; rw [e1]
  cases b
  · rfl
  · show (Fb γ ρ σ).bind _ = _; rw [h3]; show (jV (ev₂ y z)).bind _ = _; rw [e2]; rfl
theorem dec_and2 (a b c d : Nat) : (decide ((a : Int) = (b : Int)) && decide ((c : Int) < (d : Int))) = decide (a = b ∧ c < d) := by
  rw [dec_cast, dec_cast_lt, Bool.decide_and]
theorem t_and2 {T₂ : Γ → Dn S Bool} {b₁ b₂ b : Bool} (h : T γ ρ σ = .ok (b₁, σ)) (h' : T₂ γ ρ σ = .ok (b₂, σ)) (e : (b₁ && b₂) = b) : andConsD T (andConsD T₂ andNilD) γ ρ σ = .ok (b, σ) := by
  show (T γ ρ σ).bind _ = _; rw [h]; subst e
  cases b₁
  · rfl
  · show ((T₂ γ ρ σ).bind _) = _; rw [h']; cases b₂ <;> rfl
theorem t_or2 {T₂ : Γ → Dn S Bool} {b₁ b₂ b : Bool} (h : T γ ρ σ = .ok (b₁, σ)) (h' : T₂ γ ρ σ = .ok (b₂, σ)) (e : (b₁ || b₂) = b) : orConsD T (orConsD T₂ orNilD) γ ρ σ = .ok (b, σ) := by
  show (T γ ρ σ).bind _ = _; rw [h]; subst e
  cases b₁
  · show ((T₂ γ ρ σ).bind _) = _; rw [h']; cases b₂ <;> rfl
  · rfl
theorem e_cmp (hl : Fl γ ρ σ = .ok (x, σ₁)) (hr : Fr γ ρ σ₁ = .ok (y, σ₂)) (e : ev x y = some v) : cmpD Fl Fr ev γ ρ σ = .ok (v, σ₂) := by
  show (Fl γ ρ σ).bind _ = _; rw [hl]; show (Fr γ ρ σ₁).bind _ = _; rw [hr]; show (jV (ev x y)).bind _ = _; rw [e]; rfl
theorem t_orT (h : T γ ρ σ = .ok (true, σ₁)) : orConsD T Ts γ ρ σ = .ok (true, σ₁) := by
  show (T γ ρ σ).bind _ = _; rw [h]; rfl
theorem t_orF {r : Res (Bool × S)} (h : T γ ρ σ = .ok (false, σ₁)) (h' : Ts γ ρ σ₁ = r) : orConsD T Ts γ ρ σ = r := by
  show (T γ ρ σ).bind _ = _; rw [h]; exact h'
theorem t_or1 (h : T γ ρ σ = .ok (b, σ₁)) : orConsD T orNilD γ ρ σ = .ok (b, σ₁) := by
  show (T γ ρ σ).bind _ = _; rw [h]; cases b <;> rfl
theorem t_not (h : T γ ρ σ = .ok (b, σ₁)) : tNotD T γ ρ σ = .ok (!b, σ₁) := by
  show (T γ ρ σ).bind _ = _; rw [h]; rfl
theorem pred_cast (n : Nat) : ((n + 1 : Nat) : Int) - 1 = (n : Int) := by omega
theorem sb {b c : Bool} (h : b = c) : some (V.bool b) = some (V.bool c) := h ▸ rfl
theorem sbT {p : Prop} [Decidable p] (h : p) : some (V.bool (decide p)) = some (V.bool true) := sb (decide_eq_true h)
theorem sbF {p : Prop} [Decidable p] (h : ¬p) : some (V.bool (decide p)) = some (V.bool false) := sb (decide_eq_false h)
theorem si {a b : Int} (h : a = b) : some (V.int a) = some (V.int b) := h ▸ rfl
theorem e_slice {Fa Fb : Γ → Dn S V} {b : List UInt8} {lo hi : Int} (hv : F γ ρ σ = .ok (.bytes b, σ)) (hl : Fa γ ρ σ = .ok (.int lo, σ)) (hu : Fb γ ρ σ = .ok (.int hi, σ)) : sliceD F (pSomeD Fa) (pSomeD Fb) γ ρ σ = .ok (.bytes (cut b (some lo) (some hi)), σ) := by
  show (F γ ρ σ).bind _ = _; rw [hv]; show ((Fa γ ρ σ).bind _).bind _ = _; rw [hl]; show ((Fb γ ρ σ).bind _).bind _ = _; rw [hu]; rfl
theorem e_sliceT {Fb : Γ → Dn S V} {b : List UInt8} {hi : Int} (hv : F γ ρ σ = .ok (.bytes b, σ)) (hu : Fb γ ρ σ = .ok (.int hi, σ)) : sliceD F pNoneD (pSomeD Fb) γ ρ σ = .ok (.bytes (cut b none (some hi)), σ) := by
  show (F γ ρ σ).bind _ = _; rw [hv]; show ((Fb γ ρ σ).bind _).bind _ = _; rw [hu]; rfl
theorem e_sliceD {Fa : Γ → Dn S V} {b : List UInt8} {lo : Int} (hv : F γ ρ σ = .ok (.bytes b, σ)) (hl : Fa γ ρ σ = .ok (.int lo, σ)) : sliceD F (pSomeD Fa) pNoneD γ ρ σ = .ok (.bytes (cut b (some lo) none), σ) := by
  show (F γ ρ σ).bind _ = _; rw [hv]; show ((Fa γ ρ σ).bind _).bind _ = _; rw [hl]; rfl
theorem e_tupR (h1 : Fl γ ρ σ = r) (h2 : ∀ σ', Fr γ ρ σ' = .ok (y, σ')) : tupleD (jM Fl (jM Fr lNilD)) γ ρ σ = r.bind fun p => .ok (.tup [p.1, y], p.2) := by
  subst h1
  show ((Fl γ ρ σ).bind _).bind _ = _
  cases Fl γ ρ σ with
  | err => rfl
  | stuck => rfl
  | ok p => show (((Fr γ ρ p.2).bind _).bind _).bind _ = _; rw [h2]; rfl
theorem t_of (h : F γ ρ σ = .ok (.bool b, σ₁)) : tOfD F γ ρ σ = .ok (b, σ₁) := by
  show (F γ ρ σ).bind _ = _; rw [h]; rfl
theorem t_andf (h : T γ ρ σ = .ok (false, σ₁)) : andConsD T Ts γ ρ σ = .ok (false, σ₁) := by
  show (T γ ρ σ).bind _ = _; rw [h]; rfl
theorem e_bin (hl : Fl γ ρ σ = .ok (x, σ₁)) (hr : Fr γ ρ σ₁ = .ok (y, σ₂)) (e : ev x y = some v) : binD Fl Fr ev γ ρ σ = .ok (v, σ₂) := by
  show (Fl γ ρ σ).bind _ = _; rw [hl]; show (Fr γ ρ σ₁).bind _ = _; rw [hr]; show (jV (ev x y)).bind _ = _; rw [e]; rfl
theorem e_sub (hl : Fl γ ρ σ = .ok (x, σ₁)) (hr : Fr γ ρ σ₁ = .ok (y, σ₂)) (e : evItem x y = some v) : subD Fl Fr γ ρ σ = .ok (v, σ₂) := by
  show (Fl γ ρ σ).bind _ = _; rw [hl]; show (Fr γ ρ σ₁).bind _ = _; rw [hr]; show (jV (evItem x y)).bind _ = _; rw [e]; rfl
theorem e_c {f : Γ → List V → S → Res (V × S)} (hl : Fs γ ρ σ = .ok (xs, σ₁)) (e : f γ xs σ₁ = r) : eCD f Fs γ ρ σ = r := by
  show (Fs γ ρ σ).bind _ = _; rw [hl]; exact e
theorem e_chain {x y z : V} {b b' : Bool} {Fa Fb : Γ → Dn S V} {ev₁ ev₂ : V → V → Option V} (h1 : Fl γ ρ σ = .ok (x, σ)) (h2 : Fa γ ρ σ = .ok (y, σ)) (h3 : Fb γ ρ σ = .ok (z, σ)) (e1 : ev₁ x y = some (.bool b)) (e2 : ev₂ y z = some (.bool b')) : chainD Fl Fa Fb ev₁ ev₂ γ ρ σ = .ok (.bool (b && b'), σ) := by
  show (Fl γ ρ σ).bind _ = _; rw [h1]; show (Fa γ ρ σ).bind _ = _; rw [h2]; show (jV (ev₁ x y)).bind _ = _; rw [e1]
  cases b
  · rfl
  · show (Fb γ ρ σ).bind _ = _; rw [h3]; show (jV (ev₂ y z)).bind _ = _; rw [e2]; rfl
theorem e_or {b b' : Bool} (hl : Fl γ ρ σ = .ok (.bool b, σ)) (hr : Fr γ ρ σ = .ok (.bool b', σ)) : eOrD Fl Fr γ ρ σ = .ok (.bool (b || b'), σ) := by
  show (Fl γ ρ σ).bind _ = _; rw [hl]
  cases b
  · exact hr
  · rfl
theorem e_and {b b' : Bool} (hl : Fl γ ρ σ = .ok (.bool b, σ)) (hr : Fr γ ρ σ = .ok (.bool b', σ)) : eAndD Fl Fr γ ρ σ = .ok (.bool (b && b'), σ) := by
  show (Fl γ ρ σ).bind _ = _; rw [hl]
  cases b
  · rfl
  · exact hr
theorem g_set3 {a b c : Str} {j k : Nat} {z : V} {Ft : Γ → Dn S V} (h1 : Fl γ ρ σ = .ok (x, σ)) (h2 : Fr γ ρ σ = .ok (y, σ)) (h3 : Ft γ ρ σ = .ok (z, σ)) (q : P (K γ (((ρ.set k z).set j y).set i x) σ)) : P (jO (sSetWD (tupleD (jM Fl (jM Fr (jM Ft lNilD)))) [(a, i), (b, j), (c, k)]) K γ ρ σ) := by
  show P ((((jM Fl _ γ ρ σ).bind _).bind _).bind _)
  rw [show jM Fl (jM Fr (jM Ft lNilD)) γ ρ σ = .ok ([x, y, z], σ) from by
    show (Fl γ ρ σ).bind _ = _; rw [h1]; show ((Fr γ ρ σ).bind _).bind _ = _; rw [h2]; show (((Ft γ ρ σ).bind _).bind _).bind _ = _; rw [h3]; rfl]
  exact q
theorem e_ifT (h : T γ ρ σ = .ok (true, σ₁)) (h' : Fl γ ρ σ₁ = r) : ifexpD T Fl Fr γ ρ σ = r := by
  show (T γ ρ σ).bind _ = _; rw [h]; exact h'
theorem e_ifF (h : T γ ρ σ = .ok (false, σ₁)) (h' : Fr γ ρ σ₁ = r) : ifexpD T Fl Fr γ ρ σ = r := by
  show (T γ ρ σ).bind _ = _; rw [h]; exact h'
theorem t_ofb (h : F γ ρ σ = .ok (.bool b, σ₁)) (e : b = c) : tOfD F γ ρ σ = .ok (c, σ₁) := e ▸ t_of h
theorem e_len (h : F γ ρ σ = .ok (x, σ₁)) (e : evLen [x] = some v) : eLenD (jM F lNilD) γ ρ σ = .ok (v, σ₁) := by
  show ((F γ ρ σ).bind _).bind _ = _; rw [h]; show (jV (evLen [x])).bind _ = _; rw [e]; rfl
noncomputable def noneOf (l : Int) : List Int → Bool
  | [] => true
  | k :: ks => !decide (l = k) && noneOf l ks
theorem g_no {n k : Int} {ks : List Int} (hi : getv ρ i = .ok (.int n)) (hn : noneOf n (k :: ks) = true) (a : noneOf n ks = true → P (jO B (jO bNilD K) γ ρ σ)) : P (jO (jO (sIfD (tcmpD (jY i) (eIntD k) evEq) A B) bNilD) K γ ρ σ) := by
  have hn' := (Bool.and_eq_true _ _).mp hn
  refine jE (g_f (jJ (x := .int n) (y := .int k) (by show (getv ρ i).bind _ = _; rw [hi]; rfl) rfl ?_) (a hn'.2))
  show some (V.bool (decide (n = k))) = _
  rw [show decide (n = k) = false from (Bool.not_eq_true' _).mp hn'.1]
theorem jD (hl : F γ ρ σ = .ok (x, σ₁)) (hr : Fs γ ρ σ₁ = .ok (xs, σ₂)) : jM F Fs γ ρ σ = .ok (x :: xs, σ₂) := by
  show (F γ ρ σ).bind _ = _; rw [hl]; show (Fs γ ρ σ₁).bind _ = _; rw [hr]; rfl
theorem jX : (lNilD : Γ → Dn S (List V)) γ ρ σ = .ok ([], σ) := rfl
noncomputable def Ev (s : Res (V × S)) (X : Res ((Out × List V) × S)) : Prop := (X.bind fun p => .ok (retOf p.1.1, p.2)) = s
theorem ev_ret {s : Res (V × S)} (h : F γ ρ σ = s) : Ev s (jO (sRetD F) K γ ρ σ) := by
  show (((F γ ρ σ).bind _).bind _).bind _ = s; rw [h]; cases s <;> rfl
theorem g_setE (h : F γ ρ σ = .err) (a : P .err) : P (jO (sSetD F i) K γ ρ σ) := by
  show P (((F γ ρ σ).bind _).bind _); rw [h]; exact a
noncomputable def MP (J : List V → S → Prop) (P : Res ((Out × List V) × S) → Prop) : Res ((Out × List V) × S) → Prop
  | .ok ((.next, ρ), σ) => J ρ σ
  | X => P X
theorem g_mid (J : List V → S → Prop) (a : MP J P (A γ ρ σ)) (k : ∀ ρ σ, J ρ σ → P (K γ ρ σ)) : P (jO A K γ ρ σ) := by
  show P ((A γ ρ σ).bind _)
  cases e : A γ ρ σ with
  | stuck => rw [e] at a; exact a
  | err => rw [e] at a; exact a
  | ok p =>
    obtain ⟨⟨o, ρ'⟩, σ'⟩ := p
    rw [e] at a
    cases o <;> first | exact a | exact k _ _ a
theorem g_bj (J : List V → S → Prop) (b : Bool) (h : T γ ρ σ = .ok (b, σ₁)) (a : b = true → MP J P (A γ ρ σ₁)) (d : b = false → MP J P (B γ ρ σ₁)) (k : ∀ ρ σ, J ρ σ → P (K γ ρ σ)) : P (jO (sIfD T A B) K γ ρ σ) :=
  g_b b h (fun e => g_mid J (a e) k) (fun e => g_mid J (d e) k)
theorem g_eqj (J : List V → S → Prop) (n k : Nat) (h : T γ ρ σ = .ok (decide ((n : Int) = (k : Int)), σ₁)) (a : n = k → MP J P (A γ ρ σ₁)) (d : ¬n = k → MP J P (B γ ρ σ₁)) (k : ∀ ρ σ, J ρ σ → P (K γ ρ σ)) : P (jO (sIfD T A B) K γ ρ σ) :=
  g_eq n _ h (fun e => g_mid J (a e) k) (fun e => g_mid J (d e) k)
structure LQ (J : Nat → List V → S → Prop) (P : Res ((Out × List V) × S) → Prop) (K : Γ → Dn S (Out × List V)) (γ : Γ) (m : Nat) (Q : Res ((Out × List V) × S) → Prop) : Prop where
  next : ∀ k ρ σ, k < m → J k ρ σ → Q (.ok ((.next, ρ), σ))
  cont : ∀ k ρ σ, k < m → J k ρ σ → Q (.ok ((.cont, ρ), σ))
  ret : ∀ v ρ σ, P (.ok ((.ret v, ρ), σ)) → Q (.ok ((.ret v, ρ), σ))
  err : P .err → Q .err
noncomputable def LT (P Q : Res ((Out × List V) × S) → Prop) (K B : Γ → Dn S (Out × List V)) (γ : Γ) (ρ : List V) : Res (Bool × S) → Prop
  | .stuck => False
  | .err => P .err
  | .ok (b, σ) => bif b then Q (B γ ρ σ) else P (K γ ρ σ)
noncomputable def LB (J : Nat → List V → S → Prop) (P : Res ((Out × List V) × S) → Prop) (m : Nat) : Res ((Out × List V) × S) → Prop
  | .ok ((.ret v, ρ), σ) => P (.ok ((.ret v, ρ), σ))
  | .ok ((.next, ρ), σ) => ∃ k, k < m ∧ J k ρ σ
  | .ok ((.cont, ρ), σ) => ∃ k, k < m ∧ J k ρ σ
  | .err => P .err
  | _ => False
theorem LB.q {J : Nat → List V → S → Prop} {m : Nat} : LQ J P K γ m (LB J P m) := ⟨fun k _ _ h j => ⟨k, h, j⟩, fun k _ _ h j => ⟨k, h, j⟩, fun _ _ _ h => h, fun h => h⟩
theorem g_while {N : Γ → Nat} (J : Nat → List V → S → Prop) (n : Nat) (hn : n < N γ) (h0 : J n ρ σ) (step : ∀ m ρ σ, J m ρ σ → ∀ Q, LQ J P K γ m Q → LT P Q K B γ ρ (T γ ρ σ)) : P (jO (sWhileD N T B) K γ ρ σ) := by
  have key : ∀ N n ρ σ, n < N → J n ρ σ → P ((whileD (T γ) (B γ) N ρ σ).bind fun p => onNext p (K γ)) := by
    intro N
    induction N with
    | zero => exact fun n ρ σ hn => absurd hn (Nat.not_lt_zero _)
    | succ N ih =>
      intro n ρ σ hn h0
      rw [whileD_succ]
      have q := step n ρ σ h0 _ LB.q
      cases e : T γ ρ σ with
      | stuck => rw [e] at q; exact q.elim
      | err => rw [e] at q; exact q
      | ok p =>
        rw [e] at q
        obtain ⟨b, σ₁⟩ := p
        cases b with
        | false => exact q
        | true =>
          have q : LB J P n (B γ ρ σ₁) := q
          show P (((B γ ρ σ₁).bind _).bind _)
          cases e₂ : B γ ρ σ₁ with
          | stuck => rw [e₂] at q; exact q.elim
          | err => rw [e₂] at q; exact q
          | ok p =>
            rw [e₂] at q
            obtain ⟨⟨o, ρ'⟩, σ'⟩ := p
            cases o with
            | ret v => exact q
            | brk => exact q.elim
            | next => obtain ⟨k, hk, hj⟩ := q; exact ih k _ _ (Nat.lt_of_lt_of_le hk (Nat.le_of_lt_succ hn)) hj
            | cont => obtain ⟨k, hk, hj⟩ := q; exact ih k _ _ (Nat.lt_of_lt_of_le hk (Nat.le_of_lt_succ hn)) hj
  exact key (N γ) n ρ σ hn h0
variable {Q : Res ((Out × List V) × S) → Prop}
theorem lt_if (p : Prop) [Decidable p] (h : T γ ρ σ = .ok (decide p, σ₁)) (a : p → Q (B γ ρ σ₁)) (d : ¬p → P (K γ ρ σ₁)) : LT P Q K B γ ρ (T γ ρ σ) := by
  rw [h]
  by_cases hp : p
  · rw [decide_eq_true hp]; exact a hp
  · rw [decide_eq_false hp]; exact d hp
theorem lt_lt (n k : Nat) (h : T γ ρ σ = .ok (decide ((n : Int) < (k : Int)), σ₁)) (a : n < k → Q (B γ ρ σ₁)) (d : ¬n < k → P (K γ ρ σ₁)) : LT P Q K B γ ρ (T γ ρ σ) :=
  lt_if _ (h.trans (by rw [dec_cast_lt])) a d
theorem lt_b (b : Bool) (h : T γ ρ σ = .ok (b, σ₁)) (a : b = true → Q (B γ ρ σ₁)) (d : b = false → P (K γ ρ σ₁)) : LT P Q K B γ ρ (T γ ρ σ) := by
  rw [h]; cases b
  · exact d rfl
  · exact a rfl
theorem lt_true (h : T γ ρ σ = .ok (true, σ₁)) (a : Q (B γ ρ σ₁)) : LT P Q K B γ ρ (T γ ρ σ) := by
  rw [h]; exact a
theorem lt_false (h : T γ ρ σ = .ok (false, σ₁)) (d : P (K γ ρ σ₁)) : LT P Q K B γ ρ (T γ ρ σ) := by
  rw [h]; exact d
end
noncomputable abbrev MM := Nat → Nat → MS → Res (Option Nat × MS)
structure GM where
  mc : MC
  M : MM
section
variable {γ : GM} {f : GM → List V → MS → Res (V × MS)} {Fs : GM → Dn MS (List V)} {F : GM → Dn MS V} {xs l : List V} {σ σ₁ : MS} {r : Res (V × MS)}
theorem e_m (hl : Fs γ (.ref γ.mc.x :: l) σ = .ok (xs, σ₁)) (e : f γ (.ref γ.mc.x :: xs) σ₁ = r) : mCallD GM.mc f Fs γ (.ref γ.mc.x :: l) σ = r := by
  show onSelf γ.mc _ _ = _; rw [onSelf_self, hl]; exact e
theorem e_m0 (e : f γ [.ref γ.mc.x] σ = r) : mCall0D GM.mc f γ (.ref γ.mc.x :: l) σ = r := by
  show onSelf γ.mc _ _ = _; rw [onSelf_self, e]
theorem e_pat : aPatD GM.mc γ (.ref γ.mc.x :: l) σ = .ok (.bytes γ.mc.pat, σ) := by rw [aPatD_ap, onSelf_self]
theorem e_text : aTextD GM.mc γ (.ref γ.mc.x :: l) σ = .ok (.bytes γ.mc.text, σ) := by rw [aTextD_ap, onSelf_self]
theorem e_it {isS : Bool} {i : Nat} {n : Nat} (h : getv (.ref γ.mc.x :: l) i = .ok (.int n)) (hn : n < (lget isS σ).length) : mItemD GM.mc isS i γ (.ref γ.mc.x :: l) σ = .ok (.int ((lget isS σ).getD n 0), σ) := by
  show onSelf γ.mc _ _ = _; rw [onSelf_self, h]
  show (jV (if 0 ≤ (n : Int) ∧ (n : Int) < ((lget isS σ).length : Int) then some ((lget isS σ).getD n 0) else none)).bind _ = _
  rw [if_pos ⟨Int.natCast_nonneg n, Int.ofNat_lt.mpr hn⟩]; rfl
theorem e_int {a : IA} : aIntD GM.mc a γ (.ref γ.mc.x :: l) σ = .ok (.int (a.get σ), σ) := by rw [aIntD_ap, onSelf_self]
theorem aTick_eq (l : List V) (σ : MS) : aTickD GM.mc γ (.ref γ.mc.x :: l) σ = .ok (.none, σ) := by rw [aTickD_ap, onSelf_self]
variable {P : Res ((Out × List V) × MS) → Prop} {K : GM → Dn MS (Out × List V)} {a : IA} {isS : Bool} {i : Int} {F : GM → Dn MS V}
theorem g_sI (h : F γ (.ref γ.mc.x :: l) σ = .ok (.int i, σ₁)) (k : P (K γ (.ref γ.mc.x :: l) (a.set σ₁ i))) : P (jO (sSetID GM.mc F a) K γ (.ref γ.mc.x :: l) σ) := by
  show P ((Res.bind (F γ _ σ) _).bind _); rw [h, Res.bind_ok, onSelf_self]; exact k
theorem g_aI {ev : V → V → Option V} {y : V} (h : F γ (.ref γ.mc.x :: l) σ = .ok (y, σ₁)) (e : ev (.int (a.get σ)) y = some (.int i)) (k : P (K γ (.ref γ.mc.x :: l) (a.set σ₁ i))) : P (jO (sAugID GM.mc F ev a) K γ (.ref γ.mc.x :: l) σ) := by
  show P ((onSelf γ.mc _ _).bind _); rw [onSelf_self, h, Res.bind_ok, e]; exact k
theorem g_sA {j : Nat} (h : getv (.ref γ.mc.x :: l) j = .ok (.int i)) (hl : (lget isS σ).length ≤ 1000) (k : P (K γ (.ref γ.mc.x :: l) (lset isS σ (cut (lget isS σ) none (some σ.level) ++ [i])))) : P (jO (sSetAppD GM.mc isS j) K γ (.ref γ.mc.x :: l) σ) := by
  show P ((onSelf γ.mc _ _).bind _); rw [onSelf_self, h]; show P (Res.bind (if (lget isS σ).length ≤ 1000 then _ else _) _); rw [if_pos hl]; exact k
theorem g_sIt {j n : Nat} (h : F γ (.ref γ.mc.x :: l) σ = .ok (.int i, σ₁)) (hj : getv (.ref γ.mc.x :: l) j = .ok (.int n)) (hn : n < σ₁.lengths.length) (k : P (K γ (.ref γ.mc.x :: l) { σ₁ with lengths := σ₁.lengths.set n i })) : P (jO (sSetItemD GM.mc F j) K γ (.ref γ.mc.x :: l) σ) := by
  show P ((Res.bind (F γ _ σ) _).bind _); rw [h, Res.bind_ok, onSelf_self, hj]; show P (Res.bind (if 0 ≤ (n : Int) ∧ (n : Int) < (σ₁.lengths.length : Int) then _ else _) _); rw [if_pos ⟨Int.natCast_nonneg n, Int.ofNat_lt.mpr hn⟩]; exact k
theorem e_most : aMostD GM.mc γ (.ref γ.mc.x :: l) σ = .ok (.int 60, σ) := by rw [aMostD_ap, onSelf_self]
theorem g_sN (k : P (K γ (.ref γ.mc.x :: l) (lset isS σ []))) : P (jO (sSetNilD GM.mc isS) K γ (.ref γ.mc.x :: l) σ) := by
  show P ((onSelf γ.mc _ _).bind _); rw [onSelf_self]; exact k
end
theorem ev_lt {a b : Nat} (h : a < b) : evLt (.int a) (.int b) = some (.bool true) := by
  show some (V.bool (decide ((a : Int) < (b : Int)))) = _; rw [decide_eq_true (Int.ofNat_lt.mpr h)]
theorem ev_nlt {a b : Nat} (h : ¬ a < b) : evLt (.int a) (.int b) = some (.bool false) := by
  show some (V.bool (decide ((a : Int) < (b : Int)))) = _; rw [decide_eq_false fun z => h (Int.ofNat_lt.mp z)]
noncomputable def onCons {α : Type} (xs : List V) (k : V → List V → Res α) : Res α := match xs with | x :: l => k x l | [] => .stuck
noncomputable def onNil {α : Type} (xs : List V) (r : Res α) : Res α := match xs with | [] => r | _ => .stuck
noncomputable def onInt {α : Type} (x : V) (k : Int → Res α) : Res α := match x with | .int a => k a | _ => .stuck
noncomputable def onBool {α : Type} (x : V) (k : Bool → Res α) : Res α := match x with | .bool a => k a | _ => .stuck
theorem onBool_ne {α : Type} {x : V} {k : Bool → Res α} (h : onBool x k ≠ .stuck) : ∃ a, x = .bool a ∧ k a ≠ .stuck := by
  cases x with
  | bool a => exact ⟨a, rfl, h⟩
  | _ => exact absurd rfl h
noncomputable def onTup {α : Type} (x : V) (k : List V → Res α) : Res α := match x with | .tup a => k a | _ => .stuck
noncomputable def onNone {α : Type} (x : V) (r : Res α) (k : Res α) : Res α := match x with | .none => r | _ => k
theorem onTup_ne {α : Type} {x : V} {k : List V → Res α} (h : onTup x k ≠ .stuck) : ∃ a, x = .tup a ∧ k a ≠ .stuck := by
  cases x with
  | tup a => exact ⟨a, rfl, h⟩
  | _ => exact absurd rfl h
theorem onNone_inv {α : Type} (x : V) (r k : Res α) : (x = .none ∧ onNone x r k = r) ∨ onNone x r k = k := by
  cases x <;> first | exact .inl ⟨rfl, rfl⟩ | exact .inr rfl
theorem jN {α : Type} {xs : List V} {k : V → List V → Res α} (h : onCons xs k ≠ .stuck) : ∃ x l, xs = x :: l ∧ k x l ≠ .stuck := by
  cases xs with
  | nil => exact absurd rfl h
  | cons x l => exact ⟨x, l, rfl, h⟩
theorem onNil_ne {α : Type} {xs : List V} {r : Res α} (h : onNil xs r ≠ .stuck) : xs = [] ∧ r ≠ .stuck := by
  cases xs with
  | nil => exact ⟨rfl, h⟩
  | cons x l => exact absurd rfl h
theorem onInt_ne {α : Type} {x : V} {k : Int → Res α} (h : onInt x k ≠ .stuck) : ∃ a, x = .int a ∧ k a ≠ .stuck := by
  cases x with
  | int a => exact ⟨a, rfl, h⟩
  | _ => exact absurd rfl h
section
variable {mc : MC} {xs : List V} {σ : MS}
noncomputable def m0 (mc : MC) (r : MS → Res (V × MS)) : List V → MS → Res (V × MS) := fun xs σ => onCons xs fun x l => onNil l (onM mc x (r σ))
noncomputable def m1 (mc : MC) (r : Int → MS → Res (V × MS)) : List V → MS → Res (V × MS) := fun xs σ => onCons xs fun x l => onCons l fun a l => onInt a fun a => onNil l (onM mc x (r a σ))
noncomputable def m2 (mc : MC) (r : Int → Int → MS → Res (V × MS)) : List V → MS → Res (V × MS) := fun xs σ => onCons xs fun x l => onCons l fun a l => onInt a fun a => onCons l fun b l => onInt b fun b => onNil l (onM mc x (r a b σ))
@[simp] theorem m2_eq {r : Int → Int → MS → Res (V × MS)} (a b : Int) : m2 mc r [.ref mc.x, .int a, .int b] σ = r a b σ := onM_self _ _
noncomputable def m3 (mc : MC) (r : Int → Int → Int → MS → Res (V × MS)) : List V → MS → Res (V × MS) := fun xs σ => onCons xs fun x l => onCons l fun a l => onInt a fun a => onCons l fun b l => onInt b fun b => onCons l fun c l => onInt c fun c => onNil l (onM mc x (r a b c σ))
theorem m1_ne {r : Int → MS → Res (V × MS)} (h : m1 mc r xs σ ≠ .stuck) : ∃ a, xs = [.ref mc.x, .int a] ∧ r a σ ≠ .stuck :=
  let ⟨_, _, e, h⟩ := jN h
  let ⟨_, _, e₁, h⟩ := jN h
  let ⟨a, e₂, h⟩ := onInt_ne h
  let ⟨e₃, h⟩ := onNil_ne h
  let ⟨e₄, h⟩ := onM_ne h
  ⟨a, by rw [e, e₁, e₂, e₃, e₄], h⟩
theorem m3_ne {r : Int → Int → Int → MS → Res (V × MS)} (h : m3 mc r xs σ ≠ .stuck) : ∃ a b c, xs = [.ref mc.x, .int a, .int b, .int c] ∧ r a b c σ ≠ .stuck :=
  let ⟨_, _, e, h⟩ := jN h
  let ⟨_, _, e₁, h⟩ := jN h
  let ⟨a, e₂, h⟩ := onInt_ne h
  let ⟨_, _, e₃, h⟩ := jN h
  let ⟨b, e₄, h⟩ := onInt_ne h
  let ⟨_, _, e₅, h⟩ := jN h
  let ⟨c, e₆, h⟩ := onInt_ne h
  let ⟨e₇, h⟩ := onNil_ne h
  let ⟨e₈, h⟩ := onM_ne h
  ⟨a, b, c, by rw [e, e₁, e₂, e₃, e₄, e₅, e₆, e₇, e₈], h⟩
@[simp] theorem m1_eq {r : Int → MS → Res (V × MS)} (a : Int) : m1 mc r [.ref mc.x, .int a] σ = r a σ := onM_self _ _
@[simp] theorem m3_eq {r : Int → Int → Int → MS → Res (V × MS)} (a b c : Int) : m3 mc r [.ref mc.x, .int a, .int b, .int c] σ = r a b c σ := onM_self _ _
end
noncomputable abbrev KindAt (cs : Scope) (vs : List Str) : Prop := ∀ L : Nat, ∀ x ∈ vs, cs.names.lookup x = some .local ∨ (cs.names.lookup x = some .cell ∧ ((cellsFrom (L + 1) cs.names []).lookup x).isSome = true)
theorem kindCell {cs : Scope} {x : Str} {vs : List Str} (h : cs.names.lookup x = some .cell) (h' : ∀ L : Nat, ((cellsFrom (L + 1) cs.names []).lookup x).isSome = true) (t : KindAt cs vs) : KindAt cs (x :: vs) := fun L y hy =>
  (List.mem_cons.mp hy).elim (fun e => .inr (e ▸ ⟨h, h' L⟩)) (t L y)
theorem args0 {Q : List Value → Prop} (h : Q []) (vs : List Value) (e : vs.length = 0) : Q vs := by
  cases vs with
  | nil => exact h
  | cons a l => cases e
theorem argsS {Q : List Value → Prop} {k : Nat} (h : ∀ a (vs : List Value), vs.length = k → Q (a :: vs)) (vs : List Value) (e : vs.length = k + 1) : Q vs := by
  cases vs with
  | nil => cases e
  | cons a l => exact h a l (Nat.succ.inj e)
theorem args1 {Q : List Value → Prop} (h : ∀ a, Q [a]) : ∀ vs : List Value, vs.length = 1 → Q vs := argsS fun a => args0 (h a)
theorem args2 {Q : List Value → Prop} (h : ∀ a b, Q [a, b]) : ∀ vs : List Value, vs.length = 2 → Q vs := argsS fun a => args1 (h a)
theorem args3 {Q : List Value → Prop} (h : ∀ a b c, Q [a, b, c]) : ∀ vs : List Value, vs.length = 3 → Q vs := argsS fun a => args2 (h a)
theorem args4 {Q : List Value → Prop} (h : ∀ a b c d, Q [a, b, c, d]) : ∀ vs : List Value, vs.length = 4 → Q vs := argsS fun a => args3 (h a)
section
variable {Γ S : Type} {γ : Γ} {mc : MC} {k : Nat} {u : List V}
theorem hw_m0 {F : Γ → Dn MS (Out × List V)} {r : MS → Res (V × MS)} (h : ∀ σ, r σ ≠ .stuck → Ev (r σ) (F γ (.ref mc.x :: u) σ)) (xs : List V) (σ : MS) (hs : m0 mc r xs σ ≠ .stuck) :
    xs.length = 1 ∧ ((F γ (xs ++ u) σ).bind fun p => .ok (retOf p.1.1, p.2)) = m0 mc r xs σ := by
  obtain ⟨_, _, rfl, h1⟩ := jN hs
  obtain ⟨rfl, h2⟩ := onNil_ne h1
  obtain ⟨rfl, h3⟩ := onM_ne h2
  exact ⟨rfl, (h σ h3).trans (onM_self _ _).symm⟩
theorem hw_m1 {F : Γ → Dn MS (Out × List V)} {r : Int → MS → Res (V × MS)} (h : ∀ a σ, r a σ ≠ .stuck → Ev (r a σ) (F γ (.ref mc.x :: .int a :: u) σ)) (xs : List V) (σ : MS) (hs : m1 mc r xs σ ≠ .stuck) :
    xs.length = 2 ∧ ((F γ (xs ++ u) σ).bind fun p => .ok (retOf p.1.1, p.2)) = m1 mc r xs σ := by
  obtain ⟨a, rfl, h'⟩ := m1_ne hs
  rw [m1_eq]; exact ⟨rfl, h a σ h'⟩
theorem m2_ne {r : Int → Int → MS → Res (V × MS)} {xs : List V} {σ : MS} (hs : m2 mc r xs σ ≠ .stuck) : ∃ a b, xs = [.ref mc.x, .int a, .int b] ∧ r a b σ ≠ .stuck := by
  obtain ⟨_, _, rfl, h1⟩ := jN hs
  obtain ⟨_, _, rfl, h2⟩ := jN h1
  obtain ⟨a, rfl, h3⟩ := onInt_ne h2
  obtain ⟨_, _, rfl, h4⟩ := jN h3
  obtain ⟨b, rfl, h5⟩ := onInt_ne h4
  obtain ⟨rfl, h6⟩ := onNil_ne h5
  obtain ⟨rfl, h7⟩ := onM_ne h6
  exact ⟨a, b, rfl, h7⟩
noncomputable def m2b (mc : MC) (r : Int → Int → Bool → MS → Res (V × MS)) : List V → MS → Res (V × MS) := fun xs σ => onCons xs fun x l => onCons l fun a l => onInt a fun a => onCons l fun b l => onInt b fun b => onCons l fun c l => onBool c fun c => onNil l (onM mc x (r a b c σ))
theorem m2b_eq {r : Int → Int → Bool → MS → Res (V × MS)} (a b : Int) (c : Bool) (σ : MS) : m2b mc r [.ref mc.x, .int a, .int b, .bool c] σ = r a b c σ := onM_self _ _
theorem hw_m2b {F : Γ → Dn MS (Out × List V)} {r : Int → Int → Bool → MS → Res (V × MS)} (h : ∀ a b c σ, r a b c σ ≠ .stuck → Ev (r a b c σ) (F γ (.ref mc.x :: .int a :: .int b :: .bool c :: u) σ)) (xs : List V) (σ : MS) (hs : m2b mc r xs σ ≠ .stuck) :
    xs.length = 4 ∧ ((F γ (xs ++ u) σ).bind fun p => .ok (retOf p.1.1, p.2)) = m2b mc r xs σ := by
  obtain ⟨_, _, rfl, h1⟩ := jN hs
  obtain ⟨_, _, rfl, h2⟩ := jN h1
  obtain ⟨a, rfl, h3⟩ := onInt_ne h2
  obtain ⟨_, _, rfl, h4⟩ := jN h3
  obtain ⟨b, rfl, h5⟩ := onInt_ne h4
  obtain ⟨_, _, rfl, h6⟩ := jN h5
  obtain ⟨c, rfl, h7⟩ := onBool_ne h6
  obtain ⟨rfl, h8⟩ := onNil_ne h7
  obtain ⟨rfl, h9⟩ := onM_ne h8
  exact ⟨rfl, (h a b c σ h9).trans (onM_self _ _).symm⟩
theorem hw_m2 {F : Γ → Dn MS (Out × List V)} {r : Int → Int → MS → Res (V × MS)} (h : ∀ a b σ, r a b σ ≠ .stuck → Ev (r a b σ) (F γ (.ref mc.x :: .int a :: .int b :: u) σ)) (xs : List V) (σ : MS) (hs : m2 mc r xs σ ≠ .stuck) :
    xs.length = 3 ∧ ((F γ (xs ++ u) σ).bind fun p => .ok (retOf p.1.1, p.2)) = m2 mc r xs σ := by
  obtain ⟨_, _, rfl, h1⟩ := jN hs
  obtain ⟨_, _, rfl, h2⟩ := jN h1
  obtain ⟨a, rfl, h3⟩ := onInt_ne h2
  obtain ⟨_, _, rfl, h4⟩ := jN h3
  obtain ⟨b, rfl, h5⟩ := onInt_ne h4
  obtain ⟨rfl, h6⟩ := onNil_ne h5
  obtain ⟨rfl, h7⟩ := onM_ne h6
  exact ⟨rfl, (h a b σ h7).trans (onM_self _ _).symm⟩
theorem hw_m3 {F : Γ → Dn MS (Out × List V)} {r : Int → Int → Int → MS → Res (V × MS)} (h : ∀ a b c σ, r a b c σ ≠ .stuck → Ev (r a b c σ) (F γ (.ref mc.x :: .int a :: .int b :: .int c :: u) σ)) (xs : List V) (σ : MS) (hs : m3 mc r xs σ ≠ .stuck) :
    xs.length = 4 ∧ ((F γ (xs ++ u) σ).bind fun p => .ok (retOf p.1.1, p.2)) = m3 mc r xs σ := by
  obtain ⟨a, b, c, rfl, h'⟩ := m3_ne hs
  rw [m3_eq]; exact ⟨rfl, h a b c σ h'⟩
noncomputable def i1 (r : Int → S → Res (V × S)) : List V → S → Res (V × S) := fun xs σ => onCons xs fun a l => onInt a fun a => onNil l (r a σ)
noncomputable def i2 (r : Int → Int → S → Res (V × S)) : List V → S → Res (V × S) := fun xs σ => onCons xs fun a l => onInt a fun a => onCons l fun b l => onInt b fun b => onNil l (r a b σ)
theorem hw_i1 {F : Γ → Dn S (Out × List V)} {r : Int → S → Res (V × S)} (h : ∀ a σ, r a σ ≠ .stuck → Ev (r a σ) (F γ (.int a :: u) σ)) (xs : List V) (σ : S) (hs : i1 r xs σ ≠ .stuck) :
    xs.length = 1 ∧ ((F γ (xs ++ u) σ).bind fun p => .ok (retOf p.1.1, p.2)) = i1 r xs σ := by
  obtain ⟨_, _, rfl, h1⟩ := jN hs
  obtain ⟨a, rfl, h2⟩ := onInt_ne h1
  obtain ⟨rfl, h3⟩ := onNil_ne h2
  exact ⟨rfl, h a σ h3⟩
theorem hw_i2 {F : Γ → Dn S (Out × List V)} {r : Int → Int → S → Res (V × S)} (h : ∀ a b σ, r a b σ ≠ .stuck → Ev (r a b σ) (F γ (.int a :: .int b :: u) σ)) (xs : List V) (σ : S) (hs : i2 r xs σ ≠ .stuck) :
    xs.length = 2 ∧ ((F γ (xs ++ u) σ).bind fun p => .ok (retOf p.1.1, p.2)) = i2 r xs σ := by
  obtain ⟨_, _, rfl, h1⟩ := jN hs
  obtain ⟨a, rfl, h2⟩ := onInt_ne h1
  obtain ⟨_, _, rfl, h3⟩ := jN h2
  obtain ⟨b, rfl, h4⟩ := onInt_ne h3
  obtain ⟨rfl, h5⟩ := onNil_ne h4
  exact ⟨rfl, h a b σ h5⟩
end
section
variable {w : World} {G : Gd (KF w.params)} {γ : GM}
set_option maxHeartbeats 4000000
noncomputable def fLower {Γ S : Type} (_ : Γ) : List V → S → Res (V × S) := i1 fun c σ => .ok (.bool (decide (97 ≤ c) && decide (c ≤ 122)), σ)
noncomputable def fUpper {Γ S : Type} (_ : Γ) : List V → S → Res (V × S) := i1 fun c σ => .ok (.bool (decide (65 ≤ c) && decide (c ≤ 90)), σ)
noncomputable def fDigit {Γ S : Type} (_ : Γ) : List V → S → Res (V × S) := i1 fun c σ => .ok (.bool (decide (48 ≤ c) && decide (c ≤ 57)), σ)
noncomputable def isAlphaI (c : Int) : Bool := (decide (97 ≤ c) && decide (c ≤ 122)) || (decide (65 ≤ c) && decide (c ≤ 90))
noncomputable def fAlpha {Γ S : Type} (_ : Γ) : List V → S → Res (V × S) := i1 fun c σ => .ok (.bool (isAlphaI c), σ)
noncomputable def okLetter (l : Int) : Bool := !(decide (65 ≤ l) && decide (l ≤ 90)) && noneOf l [99, 100, 108, 112, 115, 117, 119, 120, 122]
noncomputable def inClass (c l : Int) : Bool := if l = 97 then isAlphaI c else decide (l = c)
noncomputable def fClass {Γ S : Type} (_ : Γ) : List V → S → Res (V × S) := i2 fun c l σ => if okLetter l then .ok (.bool (inClass c l), σ) else .stuck
section
variable {Γ Sy : Type} {γ : Γ} {R : StRep Sy}
theorem fs_is_lower {γ : GM} {R : StRep MS} : FS PW w G R 41 (0 + 1) (fLower γ) := by
  have M := mOk w.params
  refine fs_of γ ["c"] 1 rfl rfl ⟨by decide +kernel, rfl, by decide +kernel⟩ (fun hF => (jB (sRet (chain_ op_le op_le jG (jA 0 hF) jG rfl)) jF)) (args1 fun _ => rfl) (kindLoc (by decide +kernel)) (by decide) rfl rfl (hw_i1 fun c σ h => ?_)
  exact jQ (e_chain rfl rfl rfl rfl rfl) rfl
theorem fs_is_upper {γ : GM} {R : StRep MS} : FS PW w G R 48 (0 + 1) (fUpper γ) := by
  have M := mOk w.params
  refine fs_of γ ["c"] 1 rfl rfl ⟨by decide +kernel, rfl, by decide +kernel⟩ (fun hF => (jB (sRet (chain_ op_le op_le jG (jA 0 hF) jG rfl)) jF)) (args1 fun _ => rfl) (kindLoc (by decide +kernel)) (by decide) rfl rfl (hw_i1 fun c σ h => ?_)
  exact jQ (e_chain rfl rfl rfl rfl rfl) rfl
theorem fs_is_digit {γ : GM} {R : StRep MS} : FS PW w G R 62 (0 + 1) (fDigit γ) := by
  have M := mOk w.params
  refine fs_of γ ["c"] 1 rfl rfl ⟨by decide +kernel, rfl, by decide +kernel⟩ (fun hF => (jB (sRet (chain_ op_le op_le jG (jA 0 hF) jG rfl)) jF)) (args1 fun _ => rfl) (kindLoc (by decide +kernel)) (by decide) rfl rfl (hw_i1 fun c σ h => ?_)
  exact jQ (e_chain rfl rfl rfl rfl rfl) rfl
theorem fs_is_alpha {γ : GM} {R : StRep MS} : FS PW w G R 55 (1 + 1) (fAlpha γ) := by
  have M := mOk w.params
  refine fs_of γ ["c"] 1 rfl rfl ⟨by decide +kernel, rfl, by decide +kernel⟩ (fun hF => (jB (sRet (eOr (eC fs_is_lower (jC (jA 0 hF) jK)) (eC fs_is_upper (jC (jA 0 hF) jK)))) jF)) (args1 fun _ => rfl) (kindLoc (by decide +kernel)) (by decide) rfl rfl (hw_i1 fun c σ h => ?_)
  exact jQ (e_or (e_c (jD rfl jX) rfl) (e_c (jD rfl jX) rfl)) rfl
theorem fs_in_class {γ : GM} {R : StRep MS} : FS PW w G R 97 (2 + 1) (fClass γ) := by
  have M := mOk w.params
  refine fs_of γ ["c", "letter", "low", "found"] 2 rfl rfl ⟨by decide +kernel, rfl, by decide +kernel⟩ (fun hF => (jB (sSet 2 hF (ifexp_ (tOf (eC fs_is_upper (jC (jA 1 hF) jK))) (kD jP (jA 1 hF) jG) (jA 1 hF))) (jB (sIf (jI jR (jA 2 hF) jG rfl) (jB (sSet 3 hF (eC fs_is_alpha (jC (jA 0 hF) jK))) jF) (jB (sIf (jI jR (jA 2 hF) jG rfl) (jB sStuck jF) (jB (sIf (jI jR (jA 2 hF) jG rfl) (jB sStuck jF) (jB (sIf (jI jR (jA 2 hF) jG rfl) (jB sStuck jF) (jB (sIf (jI jR (jA 2 hF) jG rfl) (jB sStuck jF) (jB (sIf (jI jR (jA 2 hF) jG rfl) (jB sStuck jF) (jB (sIf (jI jR (jA 2 hF) jG rfl) (jB sStuck jF) (jB (sIf (jI jR (jA 2 hF) jG rfl) (jB sStuck jF) (jB (sIf (jI jR (jA 2 hF) jG rfl) (jB sStuck jF) (jB (sIf (jI jR (jA 2 hF) jG rfl) (jB sStuck jF) (jB (sRet (cmp_ jR (jA 1 hF) (jA 0 hF) rfl)) jF)) jF)) jF)) jF)) jF)) jF)) jF)) jF)) jF)) jF)) (jB (sRet (ifexp_ (tOf (eC fs_is_upper (jC (jA 1 hF) jK))) (eNot (jA 3 hF)) (jA 3 hF))) jF)))) (args2 fun _ _ => rfl) (kindLoc (by decide +kernel)) (by decide) rfl rfl (hw_i2 fun c l σ h => ?_)
  split at h
  · rename_i hl
    rw [if_pos hl]
    have hn := (Bool.and_eq_true _ _).mp hl
    have hu := (Bool.not_eq_true' _).mp hn.1
    have hn := hn.2
    refine kC (v := .int l) (e_ifF (t_ofb (e_c (jD rfl jX) rfl) hu) rfl) (g_if (l = 97) rfl (fun h97 => ?_) (fun h97 => ?_))
    · exact jE (kC (v := .bool (isAlphaI c)) (e_c (jD rfl jX) rfl) (jL (jQ (v := .bool (isAlphaI c)) (e_ifF (t_ofb (e_c (jD rfl jX) rfl) hu) rfl) (by rw [inClass, if_pos h97]; rfl))))
    · repeat refine g_no rfl (by assumption) fun hn => ?_
      exact jE (jQ (v := .bool (decide (l = c))) rfl (by rw [inClass, if_neg h97]; rfl))
  · exact absurd rfl h
end
noncomputable def fCount (γ : GM) : List V → MS → Res (V × MS) := m0 γ.mc fun σ => .ok (.none, σ)
noncomputable def fReset (γ : GM) : List V → MS → Res (V × MS) := m0 γ.mc fun σ => .ok (.none, ⟨0, 0, [], []⟩)
noncomputable def fAt (γ : GM) : List V → MS → Res (V × MS) := m1 γ.mc fun p σ => if 0 ≤ p then .ok (.int (atN γ.mc.pat p.toNat), σ) else .stuck
theorem fAt_of {q : Int} (p : Nat) (h : q = p) (σ : MS) : fAt γ [.ref γ.mc.x, .int q] σ = .ok (.int (atN γ.mc.pat p), σ) := by
  subst h; exact (m1_eq _).trans (if_pos (Int.natCast_nonneg p))
theorem fs_count : FS PW w G (RMw w G γ.mc) 119 (0 + 1) (fCount γ) := by
  have M := mOk w.params
  refine fs_of γ ["self"] 1 rfl rfl ⟨by decide +kernel, rfl, by decide +kernel⟩ (fun hF => (jB (sIf (jI op_isnot (aTick hF M) eNone rfl) (jB sStuck jF) jF) jF)) (args1 fun _ => rfl) (kindLoc (by decide +kernel)) (by decide) rfl rfl (hw_m0 fun σ h => ?_)
  exact g_f (jJ (aTick_eq _ _) rfl rfl) rfl
theorem fs_reset : FS PW w G (RMw w G γ.mc) 126 (0 + 1) (fReset γ) := by
  have M := mOk w.params
  refine fs_of γ ["self"] 1 rfl rfl ⟨by decide +kernel, rfl, by decide +kernel⟩ (fun hF => (jB (sSI .depth hF M jG) (jB (sSI .level hF M jG) (jB (sSN true hF M) (jB (sSN false hF M) jF))))) (args1 fun _ => rfl) (kindLoc (by decide +kernel)) (by decide) rfl rfl (hw_m0 fun σ h => ?_)
  exact g_sI rfl (g_sI rfl (g_sN (g_sN rfl)))
theorem fs_at : FS PW w G (RMw w G γ.mc) 133 (0 + 1) (fAt γ) := by
  have M := mOk w.params
  refine fs_of γ ["self", "p"] 2 rfl rfl ⟨by decide +kernel, rfl, by decide +kernel⟩ (fun hF => (jB (sRet (ifexp_ (jI op_lt (jA 1 hF) (eLen (jC (aPat hF M) jK)) rfl) (sub_ (aPat hF M) (jA 1 hF)) jG)) jF)) (args2 fun _ _ => rfl) (kindLoc (by decide +kernel)) (by decide) rfl rfl (hw_m1 fun p σ h => ?_)
  split at h
  · rename_i hp
    obtain ⟨k, rfl⟩ := Int.eq_ofNat_of_zero_le hp
    rw [if_pos hp]
    by_cases hk : k < γ.mc.pat.length
    · exact jQ (e_ifT (jJ rfl (e_len e_pat rfl) (ev_lt hk)) (e_sub e_pat rfl (evItem_bytes hk))) rfl
    · refine jQ (v := .int 0) (e_ifF (jJ rfl (e_len e_pat rfl) (ev_nlt hk)) rfl) ?_
      have e : atN γ.mc.pat k = 0 := by rw [atN, List.getD_eq_getElem?_getD, List.getElem?_eq_none_iff.mpr (Nat.not_lt.mp hk)]; rfl
      show Res.ok _ = Res.ok (V.int ((atN γ.mc.pat k : Nat) : Int), σ)
      rw [e]; rfl
  · exact absurd rfl h
theorem e_at {F : GM → Dn MS V} {l : List V} {q : Int} {σ : MS} (p : Nat) (h : F γ (.ref γ.mc.x :: l) σ = .ok (.int q, σ)) (e : q = p) : mCallD GM.mc fAt (jM F lNilD) γ (.ref γ.mc.x :: l) σ = .ok (.int (atN γ.mc.pat p), σ) :=
  e_m (jD h jX) (fAt_of p e σ)
theorem e_item {F : GM → Dn MS V} {l : List V} {q : Int} {σ : MS} (p : Nat) (h : F γ (.ref γ.mc.x :: l) σ = .ok (.int q, σ)) (e : q = p) (hp : p < γ.mc.pat.length) : subD (aPatD GM.mc) F γ (.ref γ.mc.x :: l) σ = .ok (.int (atN γ.mc.pat p), σ) :=
  e_sub e_pat h (by subst e; exact evItem_bytes hp)
theorem e_text_at {F : GM → Dn MS V} {l : List V} {q : Int} {σ : MS} (p : Nat) (h : F γ (.ref γ.mc.x :: l) σ = .ok (.int q, σ)) (e : q = p) (hp : p < γ.mc.text.length) : subD (aTextD GM.mc) F γ (.ref γ.mc.x :: l) σ = .ok (.int (atN γ.mc.text p), σ) :=
  e_sub e_text h (by subst e; exact evItem_bytes hp)
theorem e_count {l : List V} {σ : MS} : mCall0D GM.mc fCount γ (.ref γ.mc.x :: l) σ = .ok (.none, σ) := e_m0 (onM_self _ _)
end
section
variable {w : World} {G : Gd (KF w.params)} {γ : GM}
set_option maxHeartbeats 4000000
noncomputable def setEnd : Bool → List UInt8 → Option Nat
  | _, [] => none
  | f, c :: r => if f = false ∧ c.toNat = 93 then some 1 else if c.toNat = 37 then (match r with | [] => none | _ :: r' => (setEnd false r').map (· + 2)) else (setEnd false r).map (· + 1)
noncomputable def setSize : List UInt8 → Option Nat
  | [] => (setEnd true []).map (· + 1)
  | c :: r => if c.toNat = 94 then (setEnd true r).map (· + 2) else (setEnd true (c :: r)).map (· + 1)
noncomputable def jU : List UInt8 → Option Nat
  | [] => none
  | c :: r => if c.toNat = 37 then (match r with | [] => none | _ :: _ => some 2) else if c.toNat = 91 then setSize r else some 1
theorem setEnd_cons (f : Bool) (c : UInt8) (r : List UInt8) : setEnd f (c :: r) = if f = false ∧ c.toNat = 93 then some 1 else if c.toNat = 37 then (match r with | [] => none | _ :: r' => (setEnd false r').map (· + 2)) else (setEnd false r).map (· + 1) := by rw [setEnd.eq_def]
theorem singleSize_cons (c : UInt8) (r : List UInt8) : jU (c :: r) = if c.toNat = 37 then (match r with | [] => none | _ :: _ => some 2) else if c.toNat = 91 then setSize r else some 1 := rfl
theorem jT {pat : List UInt8} {p : Nat} (h : p < pat.length) : ∃ c r, pat.drop p = c :: r ∧ atN pat p = c.toNat ∧ pat.drop (p + 1) = r :=
  ⟨pat[p], pat.drop (p + 1), List.drop_eq_getElem_cons h, by rw [atN, List.getD_eq_getElem?_getD, List.getElem?_eq_getElem h]; rfl, rfl⟩
theorem jS {pat : List UInt8} {p : Nat} (h : ¬ p < pat.length) : pat.drop p = [] ∧ atN pat p = 0 :=
  ⟨List.drop_eq_nil_of_le (Nat.not_lt.mp h), by rw [atN, List.getD_eq_getElem?_getD, List.getElem?_eq_none_iff.mpr (Nat.not_lt.mp h)]; rfl⟩
theorem lt_of_at {pat : List UInt8} {p k : Nat} (h : atN pat p = k + 1) : p < pat.length :=
  Decidable.byContradiction fun z => by rw [(jS z).2] at h; cases h
theorem setEnd_at {pat : List UInt8} {p : Nat} (f : Bool) (h : p < pat.length) : setEnd f (pat.drop p) = if f = false ∧ atN pat p = 93 then some 1 else if atN pat p = 37 then (if p + 1 < pat.length then (setEnd false (pat.drop (p + 2))).map (· + 2) else none) else (setEnd false (pat.drop (p + 1))).map (· + 1) := by
  obtain ⟨c, r, hd, hat, hr⟩ := jT h
  rw [hd, setEnd_cons, hat, hr]
  by_cases h2 : p + 1 < pat.length
  · obtain ⟨d, r', hd', _, hr'⟩ := jT h2
    rw [if_pos h2, show p + 2 = p + 1 + 1 from rfl, hr', ← hr, hd']
  · rw [if_neg h2, ← hr, (jS h2).1]
theorem setSize_at (pat : List UInt8) (p : Nat) : setSize (pat.drop p) = if atN pat p = 94 then (setEnd true (pat.drop (p + 1))).map (· + 2) else (setEnd true (pat.drop p)).map (· + 1) := by
  by_cases h : p < pat.length
  · obtain ⟨c, r, hd, hat, hr⟩ := jT h
    rw [hd, hat, hr]; rfl
  · rw [(jS h).1, (jS h).2]; rfl
noncomputable def endR (σ : MS) (p : Nat) : Option Nat → Res (V × MS)
  | none => .err
  | some z => .ok (.int ((p + z : Nat) : Int), σ)
theorem endR_map (σ : MS) (p k : Nat) (o : Option Nat) : endR σ p (o.map (· + k)) = endR σ (p + k) o := by
  cases o with
  | none => rfl
  | some z => show Res.ok (V.int ((p + (z + k) : Nat) : Int), σ) = Res.ok (V.int ((p + k + z : Nat) : Int), σ); rw [Nat.add_right_comm, Nat.add_assoc]
noncomputable def fClassEnd (γ : GM) : List V → MS → Res (V × MS) := m1 γ.mc fun p σ => if 0 ≤ p ∧ p < (γ.mc.pat.length : Int) then endR σ p.toNat (jU (γ.mc.pat.drop p.toNat)) else .stuck
theorem two_of {m p n : Nat} (hm : m + p = n + 2) (hl : p < n) : ∃ m', m = m' + 2 := ⟨m - 2, by omega⟩
theorem two_1 {m p n : Nat} (h : m + 2 + p = n) : m + (p + 2) = n := (Nat.add_right_comm m 2 p).symm.trans h
theorem two_2 {m p n : Nat} (h : m + 2 + p = n) : m + 1 + (p + 1) = n := (congrArg Nat.succ (Nat.add_right_comm m 1 p)).trans (show m + p + 2 = n from (Nat.add_right_comm m 2 p).symm.trans h)
theorem w_start {n q : Nat} (hq : q = 1 ∨ q = 2) (h : n ≤ 4096) : n + 3 - q < 5000 ∧ n + 3 - q + q = n + 3 := by omega
theorem fs_class_end : FS PW w G (RMw w G γ.mc) 140 (1 + 1) (fClassEnd γ) := by
  have M := mOk w.params
  refine fs_of γ ["self", "p", "first", "is_first", "is_escaped"] 2 rfl rfl ⟨by decide +kernel, rfl, by decide +kernel⟩ (fun hF => (jB (sSet 2 hF (mC hF M fs_at (jC (jA 1 hF) jK))) (jB (sIf (jI jR (jA 2 hF) (eGI (37)) rfl) (jB (sIf (jI op_ge (kD jP (jA 1 hF) jG) (eLen (jC (aPat hF M) jK)) rfl) (jB (sRz M (jZ (by decide))) jF) jF) (jB (sRet (kD jP (jA 1 hF) jG)) jF)) jF) (jB (sIf (jI op_ne (jA 2 hF) (eGI (91)) rfl) (jB (sRet (kD jP (jA 1 hF) jG)) jF) jF) (jB (sAug 1 hF op_iadd jG) (jB (sIf (jI jR (mC hF M fs_at (jC (jA 1 hF) jK)) (eGI (94)) rfl) (jB (sAug 1 hF op_iadd jG) jF) jF) (jB (sSet 3 hF eBool) (jB (sWhile (fun γ => γ.mc.pat.length + 3) (tBool (orCons (tOf (jA 3 hF)) (orCons (jI op_ne (mC hF M fs_at (jC (jA 1 hF) jK)) (eGI (93)) rfl) orNil))) (jB (sSet 3 hF eBool) (jB (sIf (jI op_ge (jA 1 hF) (eLen (jC (aPat hF M) jK)) rfl) (jB (sRz M (jZ (by decide))) jF) jF) (jB (sSet 4 hF (cmp_ jR (sub_ (aPat hF M) (jA 1 hF)) (eGI (37)) rfl)) (jB (sAug 1 hF op_iadd jG) (jB (sIf (tBool (andCons (tOf (jA 4 hF)) (andCons (jI op_lt (jA 1 hF) (eLen (jC (aPat hF M) jK)) rfl) andNil))) (jB (sAug 1 hF op_iadd jG) jF) jF) jF)))))) (jB (sRet (kD jP (jA 1 hF) jG)) jF))))))))) (args2 fun _ _ => rfl) (kindLoc (by decide +kernel)) (by decide) rfl rfl (hw_m1 fun p σ h => ?_)
  split at h
  · rename_i hp
    obtain ⟨k, rfl⟩ := Int.eq_ofNat_of_zero_le hp.1
    have hk : k < γ.mc.pat.length := Int.ofNat_lt.mp hp.2
    rw [if_pos hp]
    obtain ⟨c, r, hd, hat, hr⟩ := jT hk
    show Ev (endR σ k (jU (γ.mc.pat.drop k))) _
    rw [hd, singleSize_cons, ← hat, ← hr]
    refine kC (e_at k rfl rfl) (g_eq (atN γ.mc.pat k) 37 rfl (fun h37 => ?_) (fun h37 => jL (g_ne (atN γ.mc.pat k) 91 rfl (fun h91 => ?_) (fun h91 => ?_))))
    · rw [if_pos h37]
      refine jE (g_le γ.mc.pat.length (k + 1) (jJ rfl (e_len e_pat rfl) rfl) (fun hl => ?_) (fun hl => ?_))
      · rw [(jS (Nat.not_lt.mpr hl)).1]
        exact jE (g_raise rfl rfl)
      · obtain ⟨d, r', hd', _⟩ := jT (Nat.not_le.mp hl)
        rw [hd']
        exact jL (jE (jQ rfl rfl))
    · rw [if_neg h37, if_neg h91]
      exact jE (jQ rfl rfl)
    · rw [if_neg h37, if_pos h91, setSize_at]
      refine jL (g_aug (.int (k + 1 : Nat)) rfl rfl rfl (g_eqj (fun ρ σ' => σ' = σ ∧ ∃ q, ρ = [.ref γ.mc.x, .int (q : Nat), .int (atN γ.mc.pat k), .undef, .undef] ∧ (if atN γ.mc.pat (k + 1) = 94 then (setEnd true (γ.mc.pat.drop (k + 1 + 1))).map (· + 2) else (setEnd true (γ.mc.pat.drop (k + 1))).map (· + 1)) = (setEnd true (γ.mc.pat.drop q)).map (· + (q - k)) ∧ k ≤ q ∧ q ≤ γ.mc.pat.length) (atN γ.mc.pat (k + 1)) 94 (jJ (e_at (k + 1) rfl rfl) rfl rfl) (fun h94 => ?_) (fun h94 => ?_) ?_))
      · exact g_aug (.int (k + 2 : Nat)) rfl rfl rfl ⟨rfl, k + 2, rfl, by rw [if_pos h94, Nat.add_sub_cancel_left], Nat.le_add_right _ _, lt_of_at h94⟩
      · exact ⟨rfl, k + 1, rfl, by rw [if_neg h94, Nat.add_sub_cancel_left], Nat.le_add_right _ _, hk⟩
      · rintro ρ σ' ⟨rfl, q, rfl, e, hkq, hq⟩
        rw [e, endR_map, Nat.add_sub_cancel' hkq]
        generalize hs : endR σ' q (setEnd true (γ.mc.pat.drop q)) = s
        refine kC rfl (g_while (fun m ρ σ => σ = σ' ∧ ∃ (p : Nat) (j : V) (f : Bool) (e : V), ρ = [.ref γ.mc.x, .int p, j, .bool f, e] ∧ m + p = γ.mc.pat.length + 2 ∧ endR σ' p (setEnd f (γ.mc.pat.drop p)) = s) (γ.mc.pat.length + 2 - q) (Nat.lt_succ_of_le (Nat.sub_le _ _)) ⟨rfl, q, _, true, _, rfl, Nat.sub_add_cancel (Nat.le_succ_of_le (Nat.le_succ_of_le hq)), hs⟩ ?_)
        rintro m ρ σ ⟨rfl, p, j, f, e, rfl, hm, hs⟩ Q q
        refine lt_b (f || !decide (atN γ.mc.pat p = 93)) (t_or2 (t_of rfl) (jJ (e_at p rfl rfl) rfl rfl) (by show (f || !decide ((atN γ.mc.pat p : Int) = ((93 : Nat) : Int))) = _; rw [dec_cast])) (fun hb => ?_) (fun hb => ?_)
        · have hb' : ¬ (f = false ∧ atN γ.mc.pat p = 93) := fun z => by rw [z.1, decide_eq_true z.2] at hb; cases hb
          refine kC rfl (g_le γ.mc.pat.length p (jJ rfl (e_len e_pat rfl) rfl) (fun hl => ?_) (fun hl => ?_))
          · rw [(jS (Nat.not_lt.mpr hl)).1] at hs
            exact jE (g_raise rfl (q.err (by cases f <;> exact hs)))
          · have hl := Nat.not_le.mp hl
            rw [setEnd_at f hl, if_neg hb'] at hs
            obtain ⟨m, rfl⟩ := two_of hm hl
            refine jL (kC (e_cmp (e_item p rfl rfl hl) rfl rfl) (g_aug (.int (p + 1 : Nat)) rfl rfl rfl (g_if (atN γ.mc.pat p = 37 ∧ p + 1 < γ.mc.pat.length) (t_and2 (t_of rfl) (jJ rfl (e_len e_pat rfl) rfl) (dec_and2 _ 37 (p + 1) _)) (fun h37 => ?_) (fun h37 => ?_))))
            · rw [if_pos h37.1, if_pos h37.2, endR_map] at hs
              exact jE (g_aug (.int (p + 2 : Nat)) rfl rfl rfl (jL (q.next m _ _ (Nat.lt_add_of_pos_right (by decide)) ⟨rfl, p + 2, _, false, _, rfl, two_1 hm, hs⟩)))
            · refine jL (q.next (m + 1) _ _ (Nat.lt_succ_self _) ⟨rfl, p + 1, _, false, _, rfl, two_2 hm, ?_⟩)
              by_cases h : atN γ.mc.pat p = 37
              · have hl2 : ¬ p + 1 < γ.mc.pat.length := fun z => h37 ⟨h, z⟩
                rw [if_pos h, if_neg hl2] at hs
                rw [(jS hl2).1]; exact hs
              · rw [if_neg h, endR_map] at hs; exact hs
        · obtain ⟨rfl, h93⟩ : f = false ∧ atN γ.mc.pat p = 93 := by
            cases f
            · exact ⟨rfl, of_decide_eq_true ((Bool.not_eq_false' _).mp hb)⟩
            · cases hb
          rw [setEnd_at false (lt_of_at h93), if_pos ⟨rfl, h93⟩] at hs
          rw [← hs]
          exact jQ rfl rfl
  · exact absurd rfl h
end
section
variable {w : World} {G : Gd (KF w.params)} {γ : GM}
set_option maxHeartbeats 4000000
noncomputable def okPat (pat : List UInt8) : Bool := pat.all fun c => okLetter c.toNat
theorem okPat_at {pat : List UInt8} (h : okPat pat = true) (p : Nat) : okLetter (atN pat p) = true := by
  by_cases hp : p < pat.length
  · obtain ⟨c, r, hd, hat, _⟩ := jT hp
    rw [hat]
    exact List.all_eq_true.mp h c (List.mem_of_mem_drop (hd ▸ List.mem_cons_self))
  · rw [(jS hp).2]; rfl
theorem fClass_ok {Γ S : Type} {γ : Γ} {c : Int} {l : Int} (h : okLetter l = true) (σ : S) : fClass γ [.int c, .int l] σ = .ok (.bool (inClass c l), σ) := if_pos h
noncomputable def inS (pat : List UInt8) (c : Int) (last : Nat) : Nat → Nat → Bool
  | 0, _ => false
  | n + 1, p => if p < last then
      if atN pat p = 37 then inClass c (atN pat (p + 1)) || inS pat c last n (p + 2)
      else if atN pat (p + 1) = 45 ∧ p + 2 < last then (decide ((atN pat p : Int) ≤ c) && decide (c ≤ (atN pat (p + 2) : Int))) || inS pat c last n (p + 3)
      else decide ((atN pat p : Int) = c) || inS pat c last n (p + 1)
    else false
noncomputable def inSet (pat : List UInt8) (c : Int) (p last : Nat) : Bool :=
  if atN pat (p + 1) = 94 then !inS pat c last (last + 1) (p + 2) else inS pat c last (last + 1) (p + 1)
noncomputable def fInSet (γ : GM) : List V → MS → Res (V × MS) := m3 γ.mc fun c p last σ => if okPat γ.mc.pat = true ∧ 0 ≤ p ∧ p < last ∧ last ≤ (γ.mc.pat.length : Int) then .ok (.bool (inSet γ.mc.pat c p.toNat last.toNat), σ) else .stuck
noncomputable def bxor' (b c : Bool) : Bool := bif b then c else !c
theorem fs_in_set : FS PW w G (RMw w G γ.mc) 147 (3 + 1) (fInSet γ) := by
  have M := mOk w.params
  refine fs_of γ ["self", "c", "p", "last", "is_wanted", "here"] 4 rfl rfl ⟨by decide +kernel, rfl, by decide +kernel⟩ (fun hF => (jB (sSet 4 hF eBool) (jB (sAug 2 hF op_iadd jG) (jB (sIf (jI jR (mC hF M fs_at (jC (jA 2 hF) jK)) (eGI (94)) rfl) (jB (sSet 4 hF eBool) (jB (sAug 2 hF op_iadd jG) jF)) jF) (jB (sWhile (fun γ => γ.mc.pat.length + 2) (jI op_lt (jA 2 hF) (jA 3 hF) rfl) (jB (sSet 5 hF (sub_ (aPat hF M) (jA 2 hF))) (jB (sIf (jI jR (jA 5 hF) (eGI (37)) rfl) (jB (sAug 2 hF op_iadd jG) (jB (sIf (tOf (eC fs_in_class (jC (jA 1 hF) (jC (mC hF M fs_at (jC (jA 2 hF) jK)) jK)))) (jB (sRet (jA 4 hF)) jF) jF) jF)) (jB (sIf (tBool (andCons (jI jR (mC hF M fs_at (jC (kD jP (jA 2 hF) jG) jK)) (eGI (45)) rfl) (andCons (jI op_lt (kD jP (jA 2 hF) jG) (jA 3 hF) rfl) andNil))) (jB (sIf (tchain_ op_le op_le (jA 5 hF) (jA 1 hF) (sub_ (aPat hF M) (kD jP (jA 2 hF) jG)) rfl) (jB (sRet (jA 4 hF)) jF) jF) (jB (sAug 2 hF op_iadd jG) jF)) (jB (sIf (jI jR (jA 5 hF) (jA 1 hF) rfl) (jB (sRet (jA 4 hF)) jF) jF) jF)) jF)) (jB (sAug 2 hF op_iadd jG) jF)))) (jB (sRet (eNot (jA 4 hF))) jF)))))) (args4 fun _ _ _ _ => rfl) (kindLoc (by decide +kernel)) (by decide) rfl rfl (hw_m3 fun c p last σ h => ?_)
  split at h
  · rename_i hp
    obtain ⟨k, rfl⟩ := Int.eq_ofNat_of_zero_le hp.2.1
    obtain ⟨last, rfl⟩ := Int.eq_ofNat_of_zero_le (Int.le_trans hp.2.1 (Int.le_of_lt hp.2.2.1))
    rw [if_pos hp]
    have hok := hp.1
    have hll : last ≤ γ.mc.pat.length := Int.ofNat_le.mp hp.2.2.2
    refine kC rfl (g_aug (.int (k + 1 : Nat)) rfl rfl rfl (g_eqj (fun ρ σ' => σ' = σ ∧ ∃ (wb : Bool) (q : Nat), ρ = [.ref γ.mc.x, .int c, .int q, .int last, .bool wb, .undef] ∧ inSet γ.mc.pat c k last = bxor' wb (inS γ.mc.pat c last (last + 1) q)) (atN γ.mc.pat (k + 1)) 94 (jJ (e_at (k + 1) rfl rfl) rfl rfl) (fun h94 => ?_) (fun h94 => ?_) ?_))
    · exact kC rfl (g_aug (.int (k + 2 : Nat)) rfl rfl rfl ⟨rfl, false, k + 2, rfl, if_pos h94⟩)
    · exact ⟨rfl, true, k + 1, rfl, if_neg h94⟩
    · rintro ρ σ' ⟨rfl, wb, q, rfl, hi⟩
      show Ev (.ok (.bool (inSet γ.mc.pat c k last), σ')) _
      rw [hi]
      generalize hI : inS γ.mc.pat c last (last + 1) q = I
      refine g_while (fun m ρ σ => σ = σ' ∧ ∃ (p : Nat) (h : V), ρ = [.ref γ.mc.x, .int c, .int p, .int last, .bool wb, h] ∧ last < p + m ∧ inS γ.mc.pat c last m p = I) (last + 1) (Nat.lt_succ_of_le (Nat.succ_le_succ hll)) ⟨rfl, q, _, rfl, Nat.lt_of_lt_of_le (Nat.lt_succ_self _) (Nat.le_add_left _ _), hI⟩ ?_
      rintro m ρ σ ⟨rfl, p, h, rfl, hm, ht⟩ Q q
      have ret : ∀ ρ : List V, I = true → Q (.ok ((.ret (.bool wb), ρ), σ)) := fun ρ e => q.ret _ _ _ (by rw [e]; cases wb <;> rfl)
      refine lt_lt p last rfl (fun hl => ?_) (fun hl => ?_)
      · cases m with
        | zero => exact absurd hm (Nat.not_lt.mpr (Nat.le_of_lt hl))
        | succ m =>
        have ht := (if_pos hl).symm.trans ht
        have go : ∀ k (h : V), inS γ.mc.pat c last m (p + (k + 1)) = I → Q (.ok ((.next, [.ref γ.mc.x, .int c, .int (p + (k + 1) : Nat), .int last, .bool wb, h]), σ)) := fun k h e => q.next m _ _ (Nat.lt_succ_self _) ⟨rfl, _, h, rfl, Nat.lt_of_lt_of_le hm (by omega), e⟩
        refine kC (e_item p rfl rfl (Nat.lt_of_lt_of_le hl hll)) (g_eq (atN γ.mc.pat p) 37 rfl (fun h37 => ?_) (fun h37 => ?_))
        · rw [if_pos h37] at ht
          refine jE (g_aug (.int (p + 1 : Nat)) rfl rfl rfl (jE (g_b _ (t_of (e_c (jD rfl (jD (e_at (p + 1) rfl rfl) jX)) (fClass_ok (okPat_at hok (p + 1)) σ))) (fun hc => ?_) (fun hc => ?_))))
          · rw [hc] at ht; exact jE (jQ rfl (ret _ ht.symm))
          · rw [hc] at ht
            exact jL (jL (g_aug (.int (p + 2 : Nat)) rfl rfl rfl (go 1 _ ht)))
        · rw [if_neg h37] at ht
          refine jE (g_if (atN γ.mc.pat (p + 1) = 45 ∧ p + 2 < last) (t_and2 (jJ (e_at (p + 1) rfl rfl) rfl rfl) rfl (dec_and2 _ 45 (p + 2) last)) (fun h45 => ?_) (fun h45 => ?_))
          · rw [if_pos h45] at ht
            refine jE (g_b _ (t_chain rfl rfl (e_item (p + 2) rfl rfl (Nat.lt_of_lt_of_le h45.2 hll)) rfl rfl) (fun hc => ?_) (fun hc => ?_))
            · rw [hc] at ht; exact jE (jQ rfl (ret _ ht.symm))
            · rw [hc] at ht
              exact jL (jE (g_aug (.int (p + 2 : Nat)) rfl rfl rfl (jL (jL (g_aug (.int (p + 3 : Nat)) rfl rfl rfl (go 2 _ ht))))))
          · rw [if_neg h45] at ht
            refine jE (g_b (decide ((atN γ.mc.pat p : Int) = c)) rfl (fun hc => ?_) (fun hc => ?_))
            · rw [hc] at ht; exact jE (jQ rfl (ret _ ht.symm))
            · rw [hc] at ht
              exact jL (jL (jL (g_aug (.int (p + 1 : Nat)) rfl rfl rfl (go 0 _ ht))))
      · have e : inS γ.mc.pat c last m p = false := by
          cases m with
          | zero => rfl
          | succ m => exact if_neg hl
        rw [← ht, e]
        exact jQ rfl (by cases wb <;> rfl)
  · exact absurd rfl h
end
section
variable {w : World} {G : Gd (KF w.params)} {γ : GM}
set_option maxHeartbeats 4000000
theorem setEnd_pos' (n : Nat) : ∀ (r : List UInt8) (f : Bool) (k : Nat), r.length ≤ n → setEnd f r = some k → 0 < k ∧ k ≤ r.length ∧ (f = true → 1 < k) := by
  induction n with
  | zero => intro r f k hr h; cases List.length_eq_zero_iff.mp (Nat.le_zero.mp hr); cases f <;> cases h
  | succ n ih =>
    intro r f k hr h
    cases r with
    | nil => cases f <;> cases h
    | cons c r =>
    rw [setEnd_cons] at h
    by_cases h1 : f = false ∧ c.toNat = 93
    · cases (if_pos h1).symm.trans h
      exact ⟨Nat.one_pos, Nat.succ_le_succ (Nat.zero_le _), fun e => nomatch h1.1.symm.trans e⟩
    · replace h := (if_neg h1).symm.trans h
      by_cases h2 : c.toNat = 37
      · replace h := (if_pos h2).symm.trans h
        cases r with
        | nil => cases h
        | cons d r =>
          obtain ⟨z, hz, rfl⟩ := Option.map_eq_some_iff.mp h
          exact ⟨Nat.succ_pos _, Nat.succ_le_succ (Nat.succ_le_succ (ih r false z (Nat.le_of_succ_le (Nat.le_of_succ_le_succ hr)) hz).2.1), fun _ => Nat.succ_lt_succ (Nat.succ_pos z)⟩
      · obtain ⟨z, hz, rfl⟩ := Option.map_eq_some_iff.mp ((if_neg h2).symm.trans h)
        have q := ih r false z (Nat.le_of_succ_le_succ hr) hz
        exact ⟨Nat.succ_pos _, Nat.succ_le_succ q.2.1, fun _ => Nat.succ_lt_succ q.1⟩
theorem setEnd_pos (r : List UInt8) (f : Bool) (k : Nat) (h : setEnd f r = some k) : 0 < k ∧ k ≤ r.length ∧ (f = true → 1 < k) := setEnd_pos' _ r f k (Nat.le_refl _) h
theorem setSize_pos {r : List UInt8} {k : Nat} (h : setSize r = some k) : 2 < k ∧ k ≤ r.length + 1 := by
  cases r with
  | nil => cases h
  | cons c r =>
    have h : (if c.toNat = 94 then (setEnd true r).map (· + 2) else (setEnd true (c :: r)).map (· + 1)) = some k := h
    split at h
    · obtain ⟨z, hz, rfl⟩ := Option.map_eq_some_iff.mp h
      obtain ⟨a, b, c⟩ := setEnd_pos r true z hz
      exact ⟨Nat.lt_add_of_pos_left a, Nat.succ_le_succ (Nat.succ_le_succ b)⟩
    · obtain ⟨z, hz, rfl⟩ := Option.map_eq_some_iff.mp h
      obtain ⟨a, b, c⟩ := setEnd_pos (c :: r) true z hz
      exact ⟨Nat.succ_lt_succ (c rfl), Nat.succ_le_succ b⟩
theorem singleSize_pos {row : List UInt8} {k : Nat} (h : jU row = some k) : 0 < k ∧ k ≤ row.length := by
  cases row with
  | nil => cases h
  | cons c r =>
    rw [singleSize_cons] at h
    split at h
    · cases r with
      | nil => cases h
      | cons d r => cases h; exact ⟨Nat.succ_pos _, Nat.succ_le_succ (Nat.succ_le_succ (Nat.zero_le _))⟩
    · split at h
      · have := setSize_pos h; exact ⟨Nat.lt_trans (Nat.succ_pos _) this.1, this.2⟩
      · cases h; exact ⟨Nat.one_pos, Nat.succ_le_succ (Nat.zero_le _)⟩
theorem singleSize_37 {pat : List UInt8} {p k : Nat} (h : jU (pat.drop p) = some k) (e : atN pat p = 37) : p + 1 < pat.length := by
  obtain ⟨c, r, hd, hat, hr⟩ := jT (lt_of_at e)
  rw [hd, singleSize_cons, ← hat, if_pos e] at h
  refine Decidable.byContradiction fun z => ?_
  rw [← hr, (jS z).1] at h; cases h
theorem singleSize_91 {pat : List UInt8} {p k : Nat} (h : jU (pat.drop p) = some k) (e : atN pat p = 91) : p < p + k - 1 ∧ p + k - 1 ≤ pat.length ∧ ((p + k : Nat) : Int) - 1 = (p + k - 1 : Nat) := by
  have hl := lt_of_at e
  have h2 := (singleSize_pos h).2
  obtain ⟨c, r, hd, hat, hr⟩ := jT hl
  rw [hd, singleSize_cons, ← hat, if_neg (by rw [e]; decide), if_pos e] at h
  have h1 := (setSize_pos h).1
  rw [List.length_drop] at h2
  clear h hd hat hr e
  cases k with
  | zero => exact absurd h1 (Nat.not_lt_zero _)
  | succ m => exact ⟨Nat.lt_add_of_pos_right (Nat.lt_of_succ_lt (Nat.lt_of_succ_lt_succ h1)), Nat.add_le_of_le_sub' (Nat.le_of_lt hl) (Nat.le_of_succ_le h2), Int.add_sub_cancel ((p + m : Nat) : Int) 1⟩
noncomputable def isSingle (text pat : List UInt8) (s p k : Nat) : Bool :=
  if s < text.length then
    (if atN pat p = 46 then true else if atN pat p = 37 then inClass (atN text s) (atN pat (p + 1)) else if atN pat p = 91 then inSet pat (atN text s) p (p + k - 1) else decide (atN pat p = atN text s))
  else false
noncomputable def fIsSingle (γ : GM) : List V → MS → Res (V × MS) := m3 γ.mc fun s p e σ => if okPat γ.mc.pat = true ∧ 0 ≤ s ∧ 0 ≤ p ∧ p ≤ e ∧ jU (γ.mc.pat.drop p.toNat) = some (e - p).toNat then .ok (.bool (isSingle γ.mc.text γ.mc.pat s.toNat p.toNat (e - p).toNat), σ) else .stuck
theorem fIsSingle_of {s p e : Int} (s' p' k : Nat) (hs : s = s') (hp : p = p') (he : e = (p' + k : Nat)) (hok : okPat γ.mc.pat = true) (hz : jU (γ.mc.pat.drop p') = some k) (σ : MS) : fIsSingle γ [.ref γ.mc.x, .int s, .int p, .int e] σ = .ok (.bool (isSingle γ.mc.text γ.mc.pat s' p' k), σ) := by
  subst hs hp he
  have e3 : (((p' + k : Nat) : Int) - (p' : Int)).toNat = k := by omega
  refine (m3_eq _ _ _).trans ?_
  rw [e3]
  exact if_pos ⟨hok, Int.natCast_nonneg _, Int.natCast_nonneg _, Int.ofNat_le.mpr (Nat.le_add_right _ _), hz⟩
theorem fInSet_of {c p q : Int} (p' q' : Nat) (hp : p = p') (hq : q = q') (hok : okPat γ.mc.pat = true) (h1 : p' < q') (h2 : q' ≤ γ.mc.pat.length) (σ : MS) : fInSet γ [.ref γ.mc.x, .int c, .int p, .int q] σ = .ok (.bool (inSet γ.mc.pat c p' q'), σ) := by
  subst hp hq
  exact (m3_eq _ _ _).trans (if_pos ⟨hok, Int.natCast_nonneg _, Int.ofNat_lt.mpr h1, Int.ofNat_le.mpr h2⟩)
theorem fs_is_single : FS PW w G (RMw w G γ.mc) 154 (4 + 1) (fIsSingle γ) := by
  have M := mOk w.params
  refine fs_of γ ["self", "s", "p", "end", "c", "first"] 4 rfl rfl ⟨by decide +kernel, rfl, by decide +kernel⟩ (fun hF => (jB (sIf (jI op_ge (jA 1 hF) (eLen (jC (aText hF M) jK)) rfl) (jB (sRet eBool) jF) jF) (jB (sSetW [("c", 4), ("first", 5)] hF (tuple_ (jC (sub_ (aText hF M) (jA 1 hF)) (jC (sub_ (aPat hF M) (jA 2 hF)) jK)))) (jB (sIf (jI jR (jA 5 hF) (eGI (46)) rfl) (jB (sRet eBool) jF) jF) (jB (sIf (jI jR (jA 5 hF) (eGI (37)) rfl) (jB (sRet (eC fs_in_class (jC (jA 4 hF) (jC (sub_ (aPat hF M) (kD jP (jA 2 hF) jG)) jK)))) jF) jF) (jB (sIf (jI jR (jA 5 hF) (eGI (91)) rfl) (jB (sRet (mC hF M fs_in_set (jC (jA 4 hF) (jC (jA 2 hF) (jC (kD op_sub (jA 3 hF) jG) jK))))) jF) jF) (jB (sRet (cmp_ jR (jA 5 hF) (jA 4 hF) rfl)) jF))))))) (args4 fun _ _ _ _ => rfl) (kindLoc (by decide +kernel)) (by decide) rfl rfl (hw_m3 fun s p e σ h => ?_)
  split at h
  · rename_i hp
    rw [if_pos hp]
    obtain ⟨hok, hs0, hp0, hpe, hz⟩ := hp
    obtain ⟨s, rfl⟩ := Int.eq_ofNat_of_zero_le hs0
    obtain ⟨p, rfl⟩ := Int.eq_ofNat_of_zero_le hp0
    obtain ⟨k, hk⟩ : ∃ k : Nat, e = (p + k : Nat) := ⟨(e - p).toNat, by omega⟩
    have e3 : (e - (p : Int)).toNat = k := by omega
    rw [e3] at hz ⊢
    subst hk
    show Ev (.ok (.bool (isSingle γ.mc.text γ.mc.pat s p k), σ)) _
    refine g_le γ.mc.text.length s (jJ rfl (e_len e_text rfl) rfl) (fun hs => ?_) (fun hs => ?_)
    · rw [isSingle, if_neg (Nat.not_lt.mpr hs)]; exact jE (jQ rfl rfl)
    · have hs := Nat.not_le.mp hs
      have hl : p < γ.mc.pat.length := Decidable.byContradiction fun z => by rw [show γ.mc.pat.drop (p : Int).toNat = [] from (jS z).1] at hz; cases hz
      rw [isSingle, if_pos hs]
      refine jL (g_set2 (e_text_at s rfl rfl hs) (e_item p rfl rfl hl) (g_eq (atN γ.mc.pat p) 46 rfl (fun h46 => ?_) (fun h46 => jL (g_eq (atN γ.mc.pat p) 37 rfl (fun h37 => ?_) (fun h37 => jL (g_eq (atN γ.mc.pat p) 91 rfl (fun h91 => ?_) (fun h91 => jL ?_)))))))
      · rw [if_pos h46]; exact jE (jQ rfl rfl)
      · rw [if_neg h46, if_pos h37]
        exact jE (jQ (e_c (jD rfl (jD (e_item (p + 1) rfl rfl (singleSize_37 hz h37)) jX)) (fClass_ok (okPat_at hok (p + 1)) σ)) rfl)
      · rw [if_neg h46, if_neg h37, if_pos h91]
        have q := singleSize_91 hz h91
        exact jE (jQ (e_m (jD rfl (jD rfl (jD rfl jX))) (fInSet_of p (p + k - 1) rfl q.2.2 hok q.1 q.2.1 σ)) rfl)
      · rw [if_neg h46, if_neg h37, if_neg h91, ← dec_cast]; exact jQ rfl rfl
  · exact absurd rfl h
noncomputable def toClose (l : List Int) : Nat → Option Nat
  | 0 => none
  | n + 1 => if l.getD n 0 = -1 then some n else toClose l n
noncomputable def natR (σ : MS) : Option Nat → Res (V × MS)
  | none => .err
  | some n => .ok (.int n, σ)
noncomputable def fToClose (γ : GM) : List V → MS → Res (V × MS) := m0 γ.mc fun σ => if 0 ≤ σ.level ∧ σ.level ≤ (σ.lengths.length : Int) ∧ σ.level ≤ 90 then natR σ (toClose σ.lengths σ.level.toNat) else .stuck
theorem fs_to_close : FS PW w G (RMw w G γ.mc) 224 (2 + 1) (fToClose γ) := by
  have M := mOk w.params
  refine fs_of γ ["self", "number"] 1 rfl rfl ⟨by decide +kernel, rfl, by decide +kernel⟩ (fun hF => (jB (sSet 1 hF (kD op_sub (aInt .level hF M) jG)) (jB (sWhile (fun γ => 100) (jI op_ge (jA 1 hF) jG rfl) (jB (sIf (jI jR (aIt false 1 hF M) (eGI (-1)) rfl) (jB (sRet (jA 1 hF)) jF) jF) (jB (sAug 1 hF op_isub jG) jF))) (jB (sRz M (jZ (by decide))) jF)))) (args1 fun _ => rfl) (kindLoc (by decide +kernel)) (by decide) rfl rfl (hw_m0 fun σ h => ?_)
  split at h
  · rename_i hp
    rw [if_pos hp]
    obtain ⟨k, hk⟩ := Int.eq_ofNat_of_zero_le hp.1
    generalize hs : natR σ (toClose σ.lengths σ.level.toNat) = s
    have hs : natR σ (toClose σ.lengths k) = s := by rw [← hs, hk]; rfl
    refine kC (e_bin e_int rfl rfl) (g_while (fun m ρ σ' => σ' = σ ∧ ∃ i : Int, ρ = [.ref γ.mc.x, .int i] ∧ i + 1 = (m : Int) ∧ m ≤ σ.lengths.length ∧ natR σ (toClose σ.lengths m) = s) k (by show k < 100; omega) ⟨rfl, _, rfl, (Int.sub_add_cancel _ _).trans hk, by omega, hs⟩ ?_)
    rintro m ρ σ' ⟨rfl, i, rfl, hi, hm, hs⟩ Q q
    cases m with
    | zero =>
      cases (show i = -1 by omega)
      exact lt_false rfl (g_raise rfl hs)
    | succ m =>
      cases (show i = (m : Int) by omega)
      refine lt_if (0 ≤ (m : Int)) rfl (fun _ => ?_) (fun z => absurd (Int.natCast_nonneg m) z)
      rw [show toClose σ'.lengths (m + 1) = (if σ'.lengths.getD m 0 = -1 then some m else toClose σ'.lengths m) from rfl] at hs
      refine g_if (σ'.lengths.getD m 0 = -1) (jJ (e_it (isS := false) rfl hm) rfl rfl) (fun h => ?_) (fun h => ?_)
      · rw [if_pos h] at hs
        exact jE (jQ rfl (q.ret _ _ _ hs))
      · rw [if_neg h] at hs
        exact jL (g_aug _ rfl rfl rfl (q.next m _ _ (Nat.lt_succ_self m) ⟨rfl, _, rfl, Int.sub_add_cancel _ _, Nat.le_of_succ_le hm, hs⟩))
  · exact absurd rfl h
end
section
variable {w : World} {G : Gd (KF w.params)} {γ : GM}
set_option maxHeartbeats 4000000
noncomputable def againR (γ : GM) (s : Int) (n : Nat) (σ : MS) : Res (V × MS) :=
  if σ.lengths.getD n 0 = -1 then .err
  else if σ.lengths.getD n 0 = -2 ∨ (γ.mc.text.length : Int) - s < σ.lengths.getD n 0 then .ok (.none, σ)
  else if cut γ.mc.text (some (σ.starts.getD n 0)) (some (σ.starts.getD n 0 + σ.lengths.getD n 0)) = cut γ.mc.text (some s) (some (s + σ.lengths.getD n 0)) then .ok (.int (s + σ.lengths.getD n 0), σ) else .ok (.none, σ)
noncomputable def OkLev (σ : MS) : Prop := 0 ≤ σ.level ∧ σ.level ≤ (σ.lengths.length : Int) ∧ σ.level ≤ (σ.starts.length : Int)
noncomputable def okLev (σ : MS) : Bool := decide (0 ≤ σ.level) && (decide (σ.level ≤ (σ.lengths.length : Int)) && decide (σ.level ≤ (σ.starts.length : Int)))
theorem okLev_iff {σ : MS} : okLev σ = true ↔ OkLev σ := by
  unfold okLev OkLev; rw [Bool.and_eq_true, Bool.and_eq_true, decide_eq_true_iff, decide_eq_true_iff, decide_eq_true_iff]
theorem okLev_lt {σ : MS} (h : okLev σ = true) {n : Nat} (hn : ¬ σ.level ≤ (n : Int)) : n < (lget false σ).length ∧ n < (lget true σ).length := by
  have q := okLev_iff.mp h
  exact ⟨Int.ofNat_lt.mp (Int.lt_of_lt_of_le (Int.not_le.mp hn) q.2.1), Int.ofNat_lt.mp (Int.lt_of_lt_of_le (Int.not_le.mp hn) q.2.2)⟩
noncomputable def fMatchCapture (γ : GM) : List V → MS → Res (V × MS) := m2 γ.mc fun s d σ => if okLev σ = true then (if d - 49 < 0 ∨ σ.level ≤ d - 49 then .err else againR γ s (d - 49).toNat σ) else .stuck
noncomputable def capR (γ : GM) (n : Nat) (σ : MS) : Res (V × MS) :=
  if σ.lengths.getD n 0 = -1 then .err
  else if σ.lengths.getD n 0 = -2 then .ok (.int (σ.starts.getD n 0 + 1), σ)
  else .ok (.bytes (cut γ.mc.text (some (σ.starts.getD n 0)) (some (σ.starts.getD n 0 + σ.lengths.getD n 0))), σ)
noncomputable def fCapture (γ : GM) : List V → MS → Res (V × MS) := m3 γ.mc fun k s e σ => if 0 ≤ k ∧ okLev σ = true then
      (if σ.level ≤ k then (if 0 < k then .err else .ok (.bytes (cut γ.mc.text (some s) (some e)), σ)) else capR γ k.toNat σ) else .stuck
noncomputable def balL (b e : Nat) : List UInt8 → Nat → Nat → Option Nat
  | [], _, _ => none
  | c :: r, o, q => if c.toNat = e then (if o = 1 then some (q + 1) else balL b e r (o - 1) (q + 1)) else if c.toNat = b then balL b e r (o + 1) (q + 1) else balL b e r o (q + 1)
theorem balL_at {text : List UInt8} {q : Nat} (b e o : Nat) (h : q < text.length) : balL b e (text.drop q) o q = if atN text q = e then (if o = 1 then some (q + 1) else balL b e (text.drop (q + 1)) (o - 1) (q + 1)) else if atN text q = b then balL b e (text.drop (q + 1)) (o + 1) (q + 1) else balL b e (text.drop (q + 1)) o (q + 1) := by
  obtain ⟨c, r, hd, hat, hr⟩ := jT h
  rw [hd, hat, hr]; rfl
noncomputable def optV (o : Option Nat) : V := match o with | some n => .int n | none => .none
noncomputable def balR (γ : GM) (s p : Nat) (σ : MS) : Res (V × MS) :=
  if γ.mc.pat.length ≤ p + 1 then .err
  else if s < γ.mc.text.length ∧ atN γ.mc.text s = atN γ.mc.pat p then .ok (optV (balL (atN γ.mc.pat p) (atN γ.mc.pat (p + 1)) (γ.mc.text.drop (s + 1)) 1 (s + 1)), σ) else .ok (.none, σ)
noncomputable def fBalance (γ : GM) : List V → MS → Res (V × MS) := m2 γ.mc fun s p σ => if 0 ≤ s ∧ 0 ≤ p then balR γ s.toNat p.toNat σ else .stuck
noncomputable def aheadN (text : List UInt8) (s : Nat) : Nat := if s = 0 then 0 else atN text (s - 1)
noncomputable def frontR (γ : GM) (s p : Nat) (σ : MS) : Res (V × MS) :=
  if atN γ.mc.pat p = 91 then (jU (γ.mc.pat.drop p)).elim .err fun k =>
      if inSet γ.mc.pat (aheadN γ.mc.text s) p (p + k - 1) || !inSet γ.mc.pat (atN γ.mc.text s) p (p + k - 1) then .ok (.tup [.none, .int (p + k : Nat)], σ) else .ok (.tup [.int s, .int (p + k : Nat)], σ)
  else .err
noncomputable def fFrontier (γ : GM) : List V → MS → Res (V × MS) := m2 γ.mc fun s p σ => if okPat γ.mc.pat = true ∧ 0 ≤ s ∧ s ≤ (γ.mc.text.length : Int) ∧ 0 ≤ p then frontR γ s.toNat p.toNat σ else .stuck
noncomputable def fSpecial (γ : GM) : List V → MS → Res (V × MS) := m3 γ.mc fun s p l σ =>
  if l = 98 then (fBalance γ [.ref γ.mc.x, .int s, .int (p + 2)] σ).bind fun r => .ok (.tup [r.1, .int (p + 4)], r.2)
  else if l = 102 then fFrontier γ [.ref γ.mc.x, .int s, .int (p + 2)] σ else (fMatchCapture γ [.ref γ.mc.x, .int s, .int l] σ).bind fun r => .ok (.tup [r.1, .int (p + 2)], r.2)
theorem fs_match_capture : FS PW w G (RMw w G γ.mc) 231 (2 + 1) (fMatchCapture γ) := by
  have M := mOk w.params
  refine fs_of γ ["self", "s", "digit", "number", "size", "start"] 3 rfl rfl ⟨by decide +kernel, rfl, by decide +kernel⟩ (fun hF => (jB (sSet 3 hF (kD op_sub (jA 2 hF) jG)) (jB (sIf (tBool (orCons (jI op_lt (jA 3 hF) jG rfl) (orCons (jI op_ge (jA 3 hF) (aInt .level hF M) rfl) (orCons (jI jR (aIt false 3 hF M) (eGI (-1)) rfl) orNil)))) (jB (sRz M (jZ (by decide))) jF) jF) (jB (sSet 4 hF (aIt false 3 hF M)) (jB (sIf (tBool (orCons (jI jR (jA 4 hF) (eGI (-2)) rfl) (orCons (jI op_lt (kD op_sub (eLen (jC (aText hF M) jK)) (jA 1 hF)) (jA 4 hF) rfl) orNil))) (jB (sRet eNone) jF) jF) (jB (sSet 5 hF (aIt true 3 hF M)) (jB (sRet (ifexp_ (jI jR (slice_ (aText hF M) (pSome (jA 5 hF)) (pSome (kD jP (jA 5 hF) (jA 4 hF)))) (slice_ (aText hF M) (pSome (jA 1 hF)) (pSome (kD jP (jA 1 hF) (jA 4 hF)))) rfl) (kD jP (jA 1 hF) (jA 4 hF)) eNone)) jF))))))) (args3 fun _ _ _ => rfl) (kindLoc (by decide +kernel)) (by decide) rfl rfl (hw_m2 fun s d σ h => ?_)
  split at h
  · rename_i hp
    rw [if_pos hp]
    refine kC (v := .int (d - 49)) rfl ?_
    generalize d - 49 = i
    by_cases h1 : i < 0 ∨ σ.level ≤ i
    · rw [if_pos h1]
      refine g_t (σ₁ := σ) ?_ (jE (g_raise rfl rfl))
      by_cases hn : i < 0
      · exact t_orT (jJ rfl rfl (sbT hn))
      · exact t_orF (jJ rfl rfl (sbF hn)) (t_orT (jJ rfl e_int (sbT (h1.resolve_left hn))))
    · rw [if_neg h1]
      obtain ⟨n, rfl⟩ := Int.eq_ofNat_of_zero_le (Int.not_lt.mp fun z => h1 (.inl z))
      have h2 : ¬ σ.level ≤ (n : Int) := fun z => h1 (.inr z)
      have hl := okLev_lt hp h2
      show Ev (againR γ s n σ) _
      rw [againR]
      refine g_if (σ.lengths.getD n 0 = -1) (t_orF (jJ rfl rfl (sbF fun z => h1 (.inl z))) (t_orF (jJ rfl e_int (sbF h2)) (t_or1 (jJ (e_it (isS := false) rfl hl.1) rfl rfl)))) (fun h => ?_) (fun h => ?_)
      · rw [if_pos h]; exact jE (g_raise rfl rfl)
      · rw [if_neg h]
        refine jL (kC (e_it (isS := false) rfl hl.1) (g_if (σ.lengths.getD n 0 = -2 ∨ (γ.mc.text.length : Int) - s < σ.lengths.getD n 0) (t_or2 (jJ rfl rfl rfl) (jJ (e_bin (e_len e_text rfl) rfl rfl) rfl rfl) (Bool.decide_or _ _).symm) (fun h => ?_) (fun h => ?_)))
        · rw [if_pos h]; exact jE (jQ rfl rfl)
        · rw [if_neg h]
          refine jL (kC (e_it (isS := true) rfl hl.2) ?_)
          split
          · rename_i hc
            exact jQ (e_ifT (jJ (e_slice e_text rfl (e_bin rfl rfl rfl)) (e_slice e_text rfl (e_bin rfl rfl rfl)) (sbT hc)) rfl) rfl
          · rename_i hc
            exact jQ (e_ifF (jJ (e_slice e_text rfl (e_bin rfl rfl rfl)) (e_slice e_text rfl (e_bin rfl rfl rfl)) (sbF hc)) rfl) rfl
  · exact absurd rfl h
theorem fs_capture : FS PW w G (RMw w G γ.mc) 238 (2 + 1) (fCapture γ) := by
  have M := mOk w.params
  refine fs_of γ ["self", "number", "s", "end", "size", "start"] 4 rfl rfl ⟨by decide +kernel, rfl, by decide +kernel⟩ (fun hF => (jB (sIf (jI op_ge (jA 1 hF) (aInt .level hF M) rfl) (jB (sIf (jI op_gt (jA 1 hF) jG rfl) (jB (sRz M (jZ (by decide))) jF) jF) (jB (sRet (slice_ (aText hF M) (pSome (jA 2 hF)) (pSome (jA 3 hF)))) jF)) jF) (jB (sSetW [("size", 4), ("start", 5)] hF (tuple_ (jC (aIt false 1 hF M) (jC (aIt true 1 hF M) jK)))) (jB (sIf (jI jR (jA 4 hF) (eGI (-1)) rfl) (jB (sRz M (jZ (by decide))) jF) jF) (jB (sRet (ifexp_ (jI jR (jA 4 hF) (eGI (-2)) rfl) (kD jP (jA 5 hF) jG) (slice_ (aText hF M) (pSome (jA 5 hF)) (pSome (kD jP (jA 5 hF) (jA 4 hF)))))) jF))))) (args4 fun _ _ _ _ => rfl) (kindLoc (by decide +kernel)) (by decide) rfl rfl (hw_m3 fun k s e σ h => ?_)
  split at h
  · rename_i hp
    rw [if_pos hp]
    obtain ⟨n, rfl⟩ := Int.eq_ofNat_of_zero_le hp.1
    refine g_if (σ.level ≤ (n : Int)) (jJ rfl e_int rfl) (fun h1 => ?_) (fun h1 => ?_)
    · rw [if_pos h1]
      refine jE (g_if (0 < (n : Int)) rfl (fun h2 => ?_) (fun h2 => ?_))
      · rw [if_pos h2]; exact jE (g_raise rfl rfl)
      · rw [if_neg h2]; exact jL (jE (jQ (e_slice e_text rfl rfl) rfl))
    · rw [if_neg h1]
      have hl := okLev_lt hp.2 h1
      show Ev (capR γ n σ) _
      rw [capR]
      refine jL (g_set2 (e_it (isS := false) rfl hl.1) (e_it (isS := true) rfl hl.2) (g_if (σ.lengths.getD n 0 = -1) rfl (fun h => ?_) (fun h => ?_)))
      · rw [if_pos h]; exact jE (g_raise rfl rfl)
      · rw [if_neg h]
        refine jL ?_
        split
        · rename_i h2
          exact jQ (e_ifT (jJ rfl rfl (sbT h2)) rfl) rfl
        · rename_i h2
          exact jQ (e_ifF (jJ rfl rfl (sbF h2)) (e_slice e_text rfl (e_bin rfl rfl rfl))) rfl
  · exact absurd rfl h
theorem fs_match_balance : FS PW w G (RMw w G γ.mc) 182 (2 + 1) (fBalance γ) := by
  have M := mOk w.params
  refine fs_of γ ["self", "s", "p", "begin", "end", "open_ones", "c"] 3 rfl rfl ⟨by decide +kernel, rfl, by decide +kernel⟩ (fun hF => (jB (sIf (jI op_ge (kD jP (jA 2 hF) jG) (eLen (jC (aPat hF M) jK)) rfl) (jB (sRz M (jZ (by decide))) jF) jF) (jB (sSetW [("begin", 3), ("end", 4)] hF (tuple_ (jC (sub_ (aPat hF M) (jA 2 hF)) (jC (sub_ (aPat hF M) (kD jP (jA 2 hF) jG)) jK)))) (jB (sIf (tBool (orCons (jI op_ge (jA 1 hF) (eLen (jC (aText hF M) jK)) rfl) (orCons (jI op_ne (sub_ (aText hF M) (jA 1 hF)) (jA 3 hF) rfl) orNil))) (jB (sRet eNone) jF) jF) (jB (sSet 5 hF jG) (jB (sAug 1 hF op_iadd jG) (jB (sWhile (fun γ => γ.mc.text.length + 1) (jI op_lt (jA 1 hF) (eLen (jC (aText hF M) jK)) rfl) (jB (sExpr (mC0 hF M fs_count)) (jB (sSet 6 hF (sub_ (aText hF M) (jA 1 hF))) (jB (sIf (jI jR (jA 6 hF) (jA 4 hF) rfl) (jB (sAug 5 hF op_isub jG) (jB (sIf (jI jR (jA 5 hF) jG rfl) (jB (sRet (kD jP (jA 1 hF) jG)) jF) jF) jF)) (jB (sIf (jI jR (jA 6 hF) (jA 3 hF) rfl) (jB (sAug 5 hF op_iadd jG) jF) jF) jF)) (jB (sAug 1 hF op_iadd jG) jF))))) (jB (sRet eNone) jF)))))))) (args3 fun _ _ _ => rfl) (kindLoc (by decide +kernel)) (by decide) rfl rfl (hw_m2 fun s p σ h => ?_)
  split at h
  · rename_i hp
    rw [if_pos hp]
    obtain ⟨s, rfl⟩ := Int.eq_ofNat_of_zero_le hp.1
    obtain ⟨p, rfl⟩ := Int.eq_ofNat_of_zero_le hp.2
    show Ev (balR γ s p σ) _
    rw [balR]
    refine g_le γ.mc.pat.length (p + 1) (jJ rfl (e_len e_pat rfl) rfl) (fun hl => ?_) (fun hl => ?_)
    · rw [if_pos hl]; exact jE (g_raise rfl rfl)
    · rw [if_neg hl]
      have hl := Nat.not_le.mp hl
      refine jL (g_set2 (e_item p rfl rfl (Nat.lt_of_succ_lt hl)) (e_item (p + 1) rfl rfl hl) ?_)
      generalize atN γ.mc.pat p = b
      generalize atN γ.mc.pat (p + 1) = e
      by_cases hs : s < γ.mc.text.length
      · refine g_ne (atN γ.mc.text s) b (t_orF (jJ rfl (e_len e_text rfl) (sbF (fun z => Nat.not_le.mpr hs (Int.ofNat_le.mp z)))) (t_or1 (jJ (e_text_at s rfl rfl hs) rfl rfl))) (fun hb => ?_) (fun hb => ?_)
        · rw [if_neg fun z => hb z.2]; exact jE (jQ rfl rfl)
        · rw [if_pos ⟨hs, hb⟩]
          refine jL (kC rfl (g_aug (.int (s + 1 : Nat)) rfl rfl rfl ?_))
          generalize hR : balL b e (γ.mc.text.drop (s + 1)) 1 (s + 1) = R
          refine g_while (fun m ρ σ' => σ' = σ ∧ ∃ (q o : Nat) (j : V), ρ = [.ref γ.mc.x, .int q, .int p, .int b, .int e, .int (o + 1 : Nat), j] ∧ m + q = γ.mc.text.length ∧ balL b e (γ.mc.text.drop q) (o + 1) q = R) (γ.mc.text.length - (s + 1)) (Nat.lt_succ_of_le (Nat.sub_le _ _)) ⟨rfl, s + 1, 0, _, rfl, Nat.sub_add_cancel hs, hR⟩ ?_
          rintro m ρ σ' ⟨rfl, q, o, j, rfl, hm, hR⟩ Q qq
          refine lt_lt q γ.mc.text.length (jJ rfl (e_len e_text rfl) rfl) (fun hq => ?_) (fun hq => ?_)
          · cases m with
            | zero => exact absurd hm (by rw [Nat.zero_add]; exact Nat.ne_of_lt hq)
            | succ m =>
            rw [balL_at _ _ _ hq] at hR
            have go : ∀ (o : Nat), balL b e (γ.mc.text.drop (q + 1)) (o + 1) (q + 1) = R → Q (.ok ((.next, [.ref γ.mc.x, .int (q + 1 : Nat), .int p, .int b, .int e, .int (o + 1 : Nat), .int (atN γ.mc.text q)]), σ')) := fun o e => qq.next m _ _ (Nat.lt_succ_self m) ⟨rfl, q + 1, o, _, rfl, by rw [← hm]; exact (Nat.succ_add_eq_add_succ m q).symm, e⟩
            refine g_expr e_count (kC (e_text_at q rfl rfl hq) (g_eq (atN γ.mc.text q) e rfl (fun he => ?_) (fun he => ?_)))
            · rw [if_pos he] at hR
              cases o with
              | zero =>
                refine jE (g_aug (.int 0) rfl rfl rfl (jE (g_t rfl (jE (jQ rfl (qq.ret _ _ _ ?_))))))
                rw [← hR]; rfl
              | succ o =>
                refine jE (g_aug (.int (o + 1 : Nat)) rfl rfl (si (pred_cast _)) (jE (g_f (jJ rfl rfl (sbF (fun z => Nat.succ_ne_zero o (Int.ofNat_inj.mp z)))) (jL (jL (g_aug (.int (q + 1 : Nat)) rfl rfl rfl (go o ?_)))))))
                rw [if_neg (by omega)] at hR; exact hR
            · rw [if_neg he] at hR
              refine jE (g_eq (atN γ.mc.text q) b rfl (fun hb => ?_) (fun hb => ?_))
              · rw [if_pos hb] at hR
                exact jE (g_aug (.int (o + 1 + 1 : Nat)) rfl rfl rfl (jL (jL (g_aug (.int (q + 1 : Nat)) rfl rfl rfl (go (o + 1) hR)))))
              · rw [if_neg hb] at hR
                exact jL (jL (g_aug (.int (q + 1 : Nat)) rfl rfl rfl (go o hR)))
          · rw [(jS hq).1] at hR
            rw [← hR]
            exact jQ rfl rfl
      · rw [if_neg fun z => hs z.1]
        exact g_t (t_orT (jJ rfl (e_len e_text rfl) (sbT (Int.ofNat_le.mpr (Nat.not_lt.mp hs))))) (jE (jQ rfl rfl))
  · exact absurd rfl h
theorem fClassEnd_of {p : Int} (p' : Nat) (h : p = p') (hp : p' < γ.mc.pat.length) (σ : MS) : fClassEnd γ [.ref γ.mc.x, .int p] σ = endR σ p' (jU (γ.mc.pat.drop p')) := by
  subst h; exact (m1_eq _).trans (if_pos ⟨Int.natCast_nonneg _, Int.ofNat_lt.mpr hp⟩)
theorem fs_match_frontier : FS PW w G (RMw w G γ.mc) 189 (4 + 1) (fFrontier γ) := by
  have M := mOk w.params
  refine fs_of γ ["self", "s", "p", "end", "ahead", "here"] 3 rfl rfl ⟨by decide +kernel, rfl, by decide +kernel⟩ (fun hF => (jB (sIf (jI op_ne (mC hF M fs_at (jC (jA 2 hF) jK)) (eGI (91)) rfl) (jB (sRz M (jZ (by decide))) jF) jF) (jB (sSet 3 hF (mC hF M fs_class_end (jC (jA 2 hF) jK))) (jB (sSet 4 hF (ifexp_ (jI jR (jA 1 hF) jG rfl) jG (sub_ (aText hF M) (kD op_sub (jA 1 hF) jG)))) (jB (sSet 5 hF (ifexp_ (jI op_lt (jA 1 hF) (eLen (jC (aText hF M) jK)) rfl) (sub_ (aText hF M) (jA 1 hF)) jG)) (jB (sIf (tBool (orCons (tOf (mC hF M fs_in_set (jC (jA 4 hF) (jC (jA 2 hF) (jC (kD op_sub (jA 3 hF) jG) jK))))) (orCons (tNot (tOf (mC hF M fs_in_set (jC (jA 5 hF) (jC (jA 2 hF) (jC (kD op_sub (jA 3 hF) jG) jK)))))) orNil))) (jB (sRet (tuple_ (jC eNone (jC (jA 3 hF) jK)))) jF) jF) (jB (sRet (tuple_ (jC (jA 1 hF) (jC (jA 3 hF) jK)))) jF))))))) (args3 fun _ _ _ => rfl) (kindLoc (by decide +kernel)) (by decide) rfl rfl (hw_m2 fun s p σ h => ?_)
  split at h
  · rename_i hp
    rw [if_pos hp]
    obtain ⟨s, rfl⟩ := Int.eq_ofNat_of_zero_le hp.2.1
    obtain ⟨p, rfl⟩ := Int.eq_ofNat_of_zero_le hp.2.2.2
    have hst : s ≤ γ.mc.text.length := Int.ofNat_le.mp hp.2.2.1
    show Ev (frontR γ s p σ) _
    rw [frontR]
    refine g_ne (atN γ.mc.pat p) 91 (jJ (e_at p rfl rfl) rfl rfl) (fun h91 => ?_) (fun h91 => ?_)
    · rw [if_neg h91]; exact jE (g_raise rfl rfl)
    · rw [if_pos h91]
      have ce := fClassEnd_of p rfl (lt_of_at h91) σ
      cases hz : jU (γ.mc.pat.drop p) with
      | none =>
        rw [hz] at ce
        exact jL (g_setE (e_m (jD rfl jX) ce) rfl)
      | some k =>
        rw [hz] at ce
        have q := singleSize_91 hz h91
        refine jL (kC (v := .int (p + k : Nat)) (e_m (jD rfl jX) ce) (kC (v := .int (aheadN γ.mc.text s)) (σ₁ := σ) ?_ (kC (v := .int (atN γ.mc.text s)) (σ₁ := σ) ?_ (g_b (inSet γ.mc.pat (aheadN γ.mc.text s) p (p + k - 1) || !inSet γ.mc.pat (atN γ.mc.text s) p (p + k - 1)) (t_or2 (t_of (e_m (jD rfl (jD rfl (jD rfl jX))) (fInSet_of p (p + k - 1) rfl q.2.2 hp.1 q.1 q.2.1 σ))) (t_not (t_of (e_m (jD rfl (jD rfl (jD rfl jX))) (fInSet_of p (p + k - 1) rfl q.2.2 hp.1 q.1 q.2.1 σ)))) rfl) (fun hb => ?_) (fun hb => ?_)))))
        · cases s with
          | zero => exact e_ifT rfl rfl
          | succ s => exact e_ifF (jJ rfl rfl (sbF (fun z => Nat.succ_ne_zero s (Int.ofNat_inj.mp z)))) (e_text_at s (e_bin rfl rfl (si (pred_cast _))) rfl hst)
        · by_cases hs : s < γ.mc.text.length
          · exact e_ifT (jJ rfl (e_len e_text rfl) (ev_lt hs)) (e_text_at s rfl rfl hs)
          · rw [(jS hs).2]
            exact e_ifF (jJ rfl (e_len e_text rfl) (ev_nlt hs)) rfl
        · rw [Option.elim, if_pos hb]; exact jE (jQ rfl rfl)
        · rw [Option.elim, if_neg (by rw [hb]; decide)]; exact jL (jQ rfl rfl)
  · exact absurd rfl h
theorem fs_match_special : FS PW w G (RMw w G γ.mc) 175 (5 + 1) (fSpecial γ) := by
  have M := mOk w.params
  refine fs_of γ ["self", "s", "p", "letter"] 4 rfl rfl ⟨by decide +kernel, rfl, by decide +kernel⟩ (fun hF => (jB (sIf (jI jR (jA 3 hF) jG rfl) (jB (sRet (tuple_ (jC (mC hF M fs_match_balance (jC (jA 1 hF) (jC (kD jP (jA 2 hF) jG) jK))) (jC (kD jP (jA 2 hF) jG) jK)))) jF) jF) (jB (sIf (jI jR (jA 3 hF) jG rfl) (jB (sRet (mC hF M fs_match_frontier (jC (jA 1 hF) (jC (kD jP (jA 2 hF) jG) jK)))) jF) jF) (jB (sRet (tuple_ (jC (mC hF M fs_match_capture (jC (jA 1 hF) (jC (jA 3 hF) jK))) (jC (kD jP (jA 2 hF) jG) jK)))) jF)))) (args4 fun _ _ _ _ => rfl) (kindLoc (by decide +kernel)) (by decide) rfl rfl (hw_m3 fun s p l σ h => ?_)
  refine g_if (l = 98) rfl (fun h98 => ?_) (fun h98 => jL (g_if (l = 102) rfl (fun h102 => ?_) (fun h102 => jL ?_)))
  · rw [if_pos h98]; exact jE (ev_ret (e_tupR (e_m (jD rfl (jD rfl jX)) rfl) fun _ => rfl))
  · rw [if_neg h98, if_pos h102]; exact jE (ev_ret (e_m (jD rfl (jD rfl jX)) rfl))
  · rw [if_neg h98, if_neg h102]; exact ev_ret (e_tupR (e_m (jD rfl (jD rfl jX)) rfl) fun _ => rfl)
end
section
variable {w : World} {G : Gd (KF w.params)} {γ : GM}
set_option maxHeartbeats 4000000
noncomputable def optR (r : Res (Option Nat × MS)) : Res (V × MS) := r.bind fun r => .ok (optV r.1, r.2)
theorem optR_ne {r : Res (Option Nat × MS)} (h : optR r ≠ .stuck) : r ≠ .stuck := fun e => h (by rw [e]; rfl)
noncomputable def orR (r : Res (Option Nat × MS)) (f : MS → Res (Option Nat × MS)) : Res (Option Nat × MS) := r.bind fun r => r.1.elim (f r.2) fun e => .ok (some e, r.2)
theorem cut_take {α : Type} (l : List α) (n : Nat) : cut l none (some (n : Int)) = l.take n := by
  simp [cut, clipAt_nat]
theorem g_call {P : Res ((Out × List V) × MS) → Prop} {K : GM → Dn MS (Out × List V)} {F : GM → Dn MS V} {ρ : List V} {σ : MS} {i : Nat} (r : Res (Option Nat × MS)) (h : F γ ρ σ = optR r) (hs : r ≠ .stuck) (he : r = .err → P .err) (k : ∀ o σ', r = .ok (o, σ') → P (K γ (ρ.set i (optV o)) σ')) : P (jO (sSetD F i) K γ ρ σ) := by
  cases r with
  | stuck => exact absurd rfl hs
  | err => exact g_setE h (he rfl)
  | ok p => exact kC h (k p.1 p.2 rfl)
noncomputable def fM (γ : GM) : List V → MS → Res (V × MS) := m2 γ.mc fun s p σ => if 0 ≤ s ∧ 0 ≤ p then optR (γ.M s.toNat p.toNat σ) else .stuck
theorem fM_of {s p : Int} (s' p' : Nat) (hs : s = s') (hp : p = p') (σ : MS) : fM γ [.ref γ.mc.x, .int s, .int p] σ = optR (γ.M s' p' σ) := by
  subst hs hp; exact (m2_eq _ _).trans (if_pos ⟨Int.natCast_nonneg _, Int.natCast_nonneg _⟩)
noncomputable def startD (M : MM) (kind : Int) (s p : Nat) (σ : MS) : Res (Option Nat × MS) :=
  if 0 ≤ σ.level ∧ σ.level < 32 ∧ σ.starts.length ≤ 1000 ∧ σ.lengths.length ≤ 1000 then
    orR (M s p { σ with starts := cut σ.starts none (some σ.level) ++ [(s : Int)], lengths := cut σ.lengths none (some σ.level) ++ [kind], level := σ.level + 1 }) fun σ => .ok (none, { σ with level := σ.level - 1 })
  else .stuck
noncomputable def matchD (HF : MM) : MM := fun s p σ => if σ.depth < 60 then (HF s p { σ with depth := σ.depth + 1 }).bind fun r => .ok (r.1, { r.2 with depth := r.2.depth - 1 }) else .stuck
noncomputable def fStart (γ : GM) : List V → MS → Res (V × MS) := m3 γ.mc fun s p kind σ => if 0 ≤ s ∧ 0 ≤ p then optR (startD γ.M kind s.toNat p.toNat σ) else .stuck
noncomputable def endD (M : MM) (s p : Nat) (σ : MS) : Res (Option Nat × MS) :=
  if 0 ≤ σ.level ∧ σ.level ≤ (σ.lengths.length : Int) ∧ σ.level ≤ 90 then
    (toClose σ.lengths σ.level.toNat).elim .err fun i => if i < σ.starts.length ∧ i < σ.lengths.length then
        orR (M s p { σ with lengths := σ.lengths.set i (s - σ.starts.getD i 0) }) fun σ => if i < σ.lengths.length then .ok (none, { σ with lengths := σ.lengths.set i (-1) }) else .stuck
        else .stuck
  else .stuck
noncomputable def fEnd (γ : GM) : List V → MS → Res (V × MS) := m2 γ.mc fun s p σ => if 0 ≤ s ∧ 0 ≤ p then optR (endD γ.M s.toNat p.toNat σ) else .stuck
noncomputable def runN (text pat : List UInt8) (p k : Nat) : Nat → Nat → Nat
  | 0, _ => 0
  | n + 1, s => if isSingle text pat s p k then runN text pat p k n (s + 1) + 1 else 0
noncomputable def mostD (M : MM) (e s : Nat) : Nat → MS → Res (Option Nat × MS)
  | 0, σ => .ok (none, σ)
  | m + 1, σ => orR (M (s + m) e σ) (mostD M e s m)
noncomputable def leastD (text pat : List UInt8) (M : MM) (p k : Nat) : Nat → Nat → MS → Res (Option Nat × MS)
  | 0, _, _ => .stuck
  | n + 1, s, σ => orR (M s (p + k + 1) σ) fun σ => if isSingle text pat s p k then leastD text pat M p k n (s + 1) σ else .ok (none, σ)
noncomputable def single3 (γ : GM) (r : Nat → Nat → Nat → MS → Res (V × MS)) : List V → MS → Res (V × MS) := m3 γ.mc fun s p e σ =>
  if okPat γ.mc.pat = true ∧ 0 ≤ s ∧ 0 ≤ p ∧ p ≤ e ∧ jU (γ.mc.pat.drop p.toNat) = some (e - p).toNat then r s.toNat p.toNat (e - p).toNat σ else .stuck
theorem single3_of {r : Nat → Nat → Nat → MS → Res (V × MS)} {s p e : Int} (s' p' k : Nat) (hs : s = s') (hp : p = p') (he : e = (p' + k : Nat)) (hok : okPat γ.mc.pat = true) (hz : jU (γ.mc.pat.drop p') = some k) (σ : MS) : single3 γ r [.ref γ.mc.x, .int s, .int p, .int e] σ = r s' p' k σ := by
  subst hs hp he
  have e3 : (((p' + k : Nat) : Int) - (p' : Int)).toNat = k := by omega
  refine (m3_eq _ _ _).trans ?_
  rw [e3]
  exact if_pos ⟨hok, Int.natCast_nonneg _, Int.natCast_nonneg _, Int.ofNat_le.mpr (Nat.le_add_right _ _), hz⟩
theorem hw_single {Γ : Type} {g : Γ} {u : List V} {F : Γ → Dn MS (Out × List V)} {r : Nat → Nat → Nat → MS → Res (V × MS)} (h : ∀ s p k σ, okPat γ.mc.pat = true → jU (γ.mc.pat.drop p) = some k → r s p k σ ≠ .stuck → Ev (r s p k σ) (F g (.ref γ.mc.x :: .int (s : Nat) :: .int (p : Nat) :: .int (p + k : Nat) :: u) σ)) (xs : List V) (σ : MS) (hs : single3 γ r xs σ ≠ .stuck) :
    xs.length = 4 ∧ ((F g (xs ++ u) σ).bind fun p => .ok (retOf p.1.1, p.2)) = single3 γ r xs σ := by
  refine hw_m3 (fun s p e σ hs => ?_) xs σ hs
  split at hs
  · rename_i hp
    rw [if_pos hp]
    obtain ⟨hok, hs0, hp0, hpe, hz⟩ := hp
    obtain ⟨s, rfl⟩ := Int.eq_ofNat_of_zero_le hs0
    obtain ⟨p, rfl⟩ := Int.eq_ofNat_of_zero_le hp0
    obtain ⟨k, hk⟩ : ∃ k : Nat, e = (p + k : Nat) := ⟨(e - p).toNat, by omega⟩
    have e3 : (e - (p : Int)).toNat = k := by omega
    rw [e3] at hz hs ⊢
    subst hk
    exact h s p k σ hok hz hs
  · exact absurd rfl hs
noncomputable def fMost (γ : GM) : List V → MS → Res (V × MS) := single3 γ fun s p k σ => optR (mostD γ.M (p + k + 1) s (runN γ.mc.text γ.mc.pat p k (γ.mc.text.length + 1) s + 1) σ)
noncomputable def fLeast (γ : GM) : List V → MS → Res (V × MS) := single3 γ fun s p k σ => optR (leastD γ.mc.text γ.mc.pat γ.M p k (γ.mc.text.length + 1) s σ)
theorem fs_start_capture {n : Nat} (fs_match : FS PW w G (RMw w G γ.mc) 161 n (fM γ)) : FS PW w G (RMw w G γ.mc) 210 (n + 1) (fStart γ) := by
  have M := mOk w.params
  refine fs_of γ ["self", "s", "p", "kind", "found"] 4 rfl rfl ⟨by decide +kernel, rfl, by decide +kernel⟩ (fun hF => (jB (sIf (jI op_ge (aInt .level hF M) (eGI (32)) rfl) (jB sStuck jF) jF) (jB (sSA true 1 hF M) (jB (sSA false 3 hF M) (jB (sAI .level hF M op_iadd jG) (jB (sSet 4 hF (mC hF M fs_match (jC (jA 1 hF) (jC (jA 2 hF) jK)))) (jB (sIf (jI op_is (jA 4 hF) eNone rfl) (jB (sAI .level hF M op_isub jG) jF) jF) (jB (sRet (jA 4 hF)) jF)))))))) (args4 fun _ _ _ _ => rfl) (kindLoc (by decide +kernel)) (by decide) rfl rfl (hw_m3 fun s p kind σ h => ?_)
  split at h
  · rename_i hp
    rw [if_pos hp]
    obtain ⟨s, rfl⟩ := Int.eq_ofNat_of_zero_le hp.1
    obtain ⟨p, rfl⟩ := Int.eq_ofNat_of_zero_le hp.2
    have h : startD γ.M kind s p σ ≠ .stuck := optR_ne h
    show Ev (optR (startD γ.M kind s p σ)) _
    rw [startD] at h ⊢
    split at h
    · rename_i hc
      rw [if_pos hc]
      generalize hr : γ.M s p _ = r at h ⊢
      refine g_f (jJ e_int rfl (sbF (Int.not_le.mpr hc.2.1))) (jL (g_sA rfl hc.2.2.1 (g_sA rfl hc.2.2.2 (g_aI rfl rfl (g_call r (by rw [← hr]; exact e_m (jD rfl (jD rfl jX)) (fM_of s p rfl rfl _)) (fun z => h (by rw [z]; rfl)) (fun z => by rw [z]; rfl) (fun o σ' z => ?_))))))
      rw [z]
      cases o with
      | some e => exact g_f rfl (jL (jQ rfl rfl))
      | none => exact g_t rfl (jE (g_aI rfl rfl (jL (jQ rfl rfl))))
    · exact absurd rfl h
  · exact absurd rfl h
theorem fToClose_of {σ : MS} (h : 0 ≤ σ.level ∧ σ.level ≤ (σ.lengths.length : Int) ∧ σ.level ≤ 90) : fToClose γ [.ref γ.mc.x] σ = natR σ (toClose σ.lengths σ.level.toNat) := (onM_self _ _).trans (if_pos h)
theorem fs_end_capture {n : Nat} (hn : 3 ≤ n) (fs_match : FS PW w G (RMw w G γ.mc) 161 n (fM γ)) : FS PW w G (RMw w G γ.mc) 217 (n + 1) (fEnd γ) := by
  have M := mOk w.params
  refine fs_of γ ["self", "s", "p", "number", "found"] 3 rfl rfl ⟨by decide +kernel, rfl, by decide +kernel⟩ (fun hF => (jB (sSet 3 hF (mC0 hF M fs_to_close)) (jB (sSIt 3 hF M (kD op_sub (jA 1 hF) (aIt true 3 hF M))) (jB (sSet 4 hF (mC hF M fs_match (jC (jA 1 hF) (jC (jA 2 hF) jK)))) (jB (sIf (jI op_is (jA 4 hF) eNone rfl) (jB (sSIt 3 hF M (eGI (-1))) jF) jF) (jB (sRet (jA 4 hF)) jF)))))) (args3 fun _ _ _ => rfl) (kindLoc (by decide +kernel)) (by decide) rfl rfl (hw_m2 fun s p σ h => ?_)
  split at h
  · rename_i hp
    rw [if_pos hp]
    obtain ⟨s, rfl⟩ := Int.eq_ofNat_of_zero_le hp.1
    obtain ⟨p, rfl⟩ := Int.eq_ofNat_of_zero_le hp.2
    have h : endD γ.M s p σ ≠ .stuck := optR_ne h
    show Ev (optR (endD γ.M s p σ)) _
    rw [endD] at h ⊢
    split at h
    · rename_i hc
      rw [if_pos hc]
      have tc := fToClose_of (γ := γ) hc
      cases hi : toClose σ.lengths σ.level.toNat with
      | none =>
        rw [hi] at tc
        exact g_setE (e_m0 tc) rfl
      | some i =>
        rw [hi] at tc h
        rw [Option.elim] at h ⊢
        split at h
        · rename_i hl
          rw [if_pos hl]
          generalize hr : γ.M s p _ = r at h ⊢
          refine kC (v := .int i) (e_m0 tc) (g_sIt (n := i) (e_bin rfl (e_it (isS := true) (n := i) rfl hl.1) rfl) rfl hl.2 (g_call r (by rw [← hr]; exact e_m (jD rfl (jD rfl jX)) (fM_of s p rfl rfl _)) (fun z => h (by rw [z]; rfl)) (fun z => by rw [z]; rfl) (fun o σ' z => ?_)))
          rw [z] at h ⊢
          cases o with
          | some e => exact g_f rfl (jL (jQ rfl rfl))
          | none =>
            by_cases hz : i < σ'.lengths.length
            · refine g_t rfl (jE (g_sIt (n := i) rfl rfl hz (jL (jQ (v := .none) rfl ?_))))
              show _ = optR (if i < σ'.lengths.length then _ else _)
              rw [if_pos hz]; rfl
            · exact absurd (if_neg hz) h
        · exact absurd rfl h
    · exact absurd rfl h
  · exact absurd rfl h
theorem fs_match {n : Nat} (hn : 3 ≤ n) (fs_match_here : FS PW w G (RMw w G γ.mc) 168 n (fM γ)) : FS PW w G (RMw w G γ.mc) 161 (n + 1) (fM ⟨γ.mc, matchD γ.M⟩) := by
  have M := mOk w.params
  refine fs_of γ ["self", "s", "p", "found"] 3 rfl rfl ⟨by decide +kernel, rfl, by decide +kernel⟩ (fun hF => (jB (sExpr (mC0 hF M fs_count)) (jB (sAI .depth hF M op_iadd jG) (jB (sIf (jI op_gt (aInt .depth hF M) (aMost hF M) rfl) (jB sStuck jF) jF) (jB (sSet 3 hF (mC hF M fs_match_here (jC (jA 1 hF) (jC (jA 2 hF) jK)))) (jB (sAI .depth hF M op_isub jG) (jB (sRet (jA 3 hF)) jF))))))) (args3 fun _ _ _ => rfl) (kindLoc (by decide +kernel)) (by decide) rfl rfl (hw_m2 fun s p σ h => ?_)
  split at h
  · rename_i hp
    rw [if_pos hp]
    obtain ⟨s, rfl⟩ := Int.eq_ofNat_of_zero_le hp.1
    obtain ⟨p, rfl⟩ := Int.eq_ofNat_of_zero_le hp.2
    have h : matchD γ.M s p σ ≠ .stuck := optR_ne h
    show Ev (optR (matchD γ.M s p σ)) _
    rw [matchD] at h ⊢
    split at h
    · rename_i hc
      rw [if_pos hc]
      generalize hr : γ.M s p _ = r at h ⊢
      refine g_expr e_count (g_aI rfl rfl (g_f (jJ e_int e_most (sbF (Int.not_lt.mpr hc))) (jL (g_call r (by rw [← hr]; exact e_m (jD rfl (jD rfl jX)) (fM_of s p rfl rfl _)) (fun z => h (by rw [z]; rfl)) (fun z => by rw [z]; rfl) (fun o σ' z => ?_)))))
      rw [z]
      cases o <;> exact g_aI rfl rfl (jQ rfl rfl)
    · exact absurd rfl h
  · exact absurd rfl h
theorem fs_expand_least {n : Nat} (hn : 5 ≤ n) (fs_match : FS PW w G (RMw w G γ.mc) 161 n (fM γ)) : FS PW w G (RMw w G γ.mc) 203 (n + 1) (fLeast γ) := by
  have M := mOk w.params
  refine fs_of γ ["self", "s", "p", "end", "found"] 4 rfl rfl ⟨by decide +kernel, rfl, by decide +kernel⟩ (fun hF => (jB (sWhile (fun γ => γ.mc.text.length + 2) (tOf eBool) (jB (sSet 4 hF (mC hF M fs_match (jC (jA 1 hF) (jC (kD jP (jA 3 hF) jG) jK)))) (jB (sIf (jI op_isnot (jA 4 hF) eNone rfl) (jB (sRet (jA 4 hF)) jF) jF) (jB (sIf (tNot (tOf (mC hF M fs_is_single (jC (jA 1 hF) (jC (jA 2 hF) (jC (jA 3 hF) jK)))))) (jB (sRet eNone) jF) jF) (jB (sAug 1 hF op_iadd jG) jF))))) jF)) (args4 fun _ _ _ _ => rfl) (kindLoc (by decide +kernel)) (by decide) rfl rfl (hw_single fun s p k σ hok hz h => ?_)
  have hs := optR_ne h
  clear h
  generalize hR : leastD γ.mc.text γ.mc.pat γ.M p k (γ.mc.text.length + 1) s σ = R at hs ⊢
  refine g_while (fun m ρ σ => ∃ (s : Nat) (j : V), ρ = [.ref γ.mc.x, .int s, .int p, .int (p + k : Nat), j] ∧ leastD γ.mc.text γ.mc.pat γ.M p k m s σ = R) (γ.mc.text.length + 1) (Nat.lt_succ_self _) ⟨s, _, rfl, hR⟩ ?_
  rintro m ρ σ ⟨s, j, rfl, hR⟩ Q q
  cases m with
  | zero => exact absurd hR.symm hs
  | succ m =>
  have hR : orR (γ.M s (p + k + 1) σ) _ = R := hR
  refine lt_true rfl (g_call (γ.M s (p + k + 1) σ) (e_m (jD rfl (jD rfl jX)) (fM_of s (p + k + 1) rfl rfl σ)) (fun z => hs (by rw [← hR, z]; rfl)) (fun z => q.err (by rw [← hR, z]; rfl)) (fun o σ' z => ?_))
  rw [z] at hR
  cases o with
  | some e => exact g_t rfl (jE (jQ rfl (q.ret _ _ _ (by rw [← hR]; rfl))))
  | none =>
    refine g_f rfl (jL (g_b _ (t_not (t_of (e_m (jD rfl (jD rfl (jD rfl jX))) (fIsSingle_of s p k rfl rfl rfl hok hz σ')))) (fun hb => ?_) (fun hb => ?_)))
    · have hR : (if isSingle γ.mc.text γ.mc.pat s p k then _ else _) = R := hR
      rw [(Bool.not_eq_true' _).mp hb] at hR
      exact jE (jQ rfl (q.ret _ _ _ (by rw [← hR]; rfl)))
    · have hR : (if isSingle γ.mc.text γ.mc.pat s p k then _ else _) = R := hR
      rw [(Bool.not_eq_false' _).mp hb] at hR
      exact jL (g_aug (.int (s + 1 : Nat)) rfl rfl rfl (q.next m _ _ (Nat.lt_succ_self m) ⟨s + 1, _, rfl, hR⟩))
theorem fs_expand_most {n : Nat} (hn : 5 ≤ n) (fs_match : FS PW w G (RMw w G γ.mc) 161 n (fM γ)) : FS PW w G (RMw w G γ.mc) 196 (n + 1) (fMost γ) := by
  have M := mOk w.params
  refine fs_of γ ["self", "s", "p", "end", "many", "found"] 4 rfl rfl ⟨by decide +kernel, rfl, by decide +kernel⟩ (fun hF => (jB (sSet 4 hF jG) (jB (sWhile (fun γ => γ.mc.text.length + 2) (tOf (mC hF M fs_is_single (jC (kD jP (jA 1 hF) (jA 4 hF)) (jC (jA 2 hF) (jC (jA 3 hF) jK))))) (jB (sExpr (mC0 hF M fs_count)) (jB (sAug 4 hF op_iadd jG) jF))) (jB (sWhile (fun γ => γ.mc.text.length + 3) (jI op_ge (jA 4 hF) jG rfl) (jB (sSet 5 hF (mC hF M fs_match (jC (kD jP (jA 1 hF) (jA 4 hF)) (jC (kD jP (jA 3 hF) jG) jK)))) (jB (sIf (jI op_isnot (jA 5 hF) eNone rfl) (jB (sRet (jA 5 hF)) jF) jF) (jB (sAug 4 hF op_isub jG) jF)))) (jB (sRet eNone) jF))))) (args4 fun _ _ _ _ => rfl) (kindLoc (by decide +kernel)) (by decide) rfl rfl (hw_single fun s p k σ hok hz h => ?_)
  have hs := optR_ne h
  clear h
  generalize hT : runN γ.mc.text γ.mc.pat p k (γ.mc.text.length + 1) s = T at hs ⊢
  generalize hR : mostD γ.M (p + k + 1) s (T + 1) σ = R at hs ⊢
  refine kC rfl (g_while (fun m ρ σ' => σ' = σ ∧ ∃ (i : Nat), ρ = [.ref γ.mc.x, .int s, .int p, .int (p + k : Nat), .int i, .undef] ∧ m + i = γ.mc.text.length + 1 ∧ runN γ.mc.text γ.mc.pat p k m (s + i) + i = T) (γ.mc.text.length + 1) (Nat.lt_succ_self _) ⟨rfl, 0, rfl, rfl, hT⟩ ?_)
  rintro m ρ σ' ⟨rfl, i, rfl, hm, hi⟩ Q q
  refine lt_b _ (t_of (e_m (jD (e_bin rfl rfl rfl) (jD rfl (jD rfl jX))) (fIsSingle_of (s + i) p k rfl rfl rfl hok hz σ'))) (fun hb => ?_) (fun hb => ?_)
  · cases m with
    | zero =>
      have : ¬ s + i < γ.mc.text.length := by omega
      rw [isSingle, if_neg this] at hb; cases hb
    | succ m =>
      rw [show runN γ.mc.text γ.mc.pat p k (m + 1) (s + i) = _ from if_pos hb, Nat.add_right_comm, Nat.add_assoc] at hi
      exact g_expr e_count (g_aug (.int (i + 1 : Nat)) rfl rfl rfl (q.next m _ _ (Nat.lt_succ_self m) ⟨rfl, i + 1, rfl, by rw [← hm]; exact (Nat.succ_add_eq_add_succ m i).symm, hi⟩))
  · have hi : i = T := by
      cases m with
      | zero => exact (Nat.zero_add i).symm.trans hi
      | succ m => rw [show runN γ.mc.text γ.mc.pat p k (m + 1) (s + i) = _ from if_neg (by rw [hb]; decide), Nat.zero_add] at hi; exact hi
    subst hi
    refine g_while (fun m ρ σ => ∃ (z : Int) (j : V), ρ = [.ref γ.mc.x, .int s, .int p, .int (p + k : Nat), .int z, j] ∧ z + 1 = (m : Int) ∧ mostD γ.M (p + k + 1) s m σ = R) (i + 1) (by show i + 1 < γ.mc.text.length + 3; omega) ⟨i, _, rfl, rfl, hR⟩ ?_
    rintro m ρ σ ⟨z, j, rfl, hz, hR⟩ Q q
    cases m with
    | zero =>
      cases (show z = -1 by omega)
      exact lt_false rfl (jQ rfl (by rw [← hR]; rfl))
    | succ m =>
      cases (show z = (m : Int) by omega)
      have hR : orR (γ.M (s + m) (p + k + 1) σ) _ = R := hR
      refine lt_if (0 ≤ (m : Int)) rfl (fun _ => ?_) (fun z => absurd (Int.natCast_nonneg m) z)
      refine g_call (γ.M (s + m) (p + k + 1) σ) (e_m (jD (e_bin rfl rfl rfl) (jD rfl jX)) (fM_of (s + m) (p + k + 1) rfl rfl σ)) (fun z => hs (by rw [← hR, z]; rfl)) (fun z => q.err (by rw [← hR, z]; rfl)) (fun o σ' z => ?_)
      rw [z] at hR
      cases o with
      | some e => exact g_t rfl (jE (jQ rfl (q.ret _ _ _ (by rw [← hR]; rfl))))
      | none => exact g_f rfl (jL (g_aug _ rfl rfl rfl (q.next m _ _ (Nat.lt_succ_self m) ⟨_, _, rfl, Int.sub_add_cancel _ _, hR⟩)))
end
section
variable {w : World} {G : Gd (KF w.params)} {γ : GM}
set_option maxHeartbeats 4000000
noncomputable def isSpecial (c : Nat) : Bool := ([98, 102] : List UInt8).any (fun x => (x.toNat : Int) == (c : Int)) || (decide (48 ≤ (c : Int)) && decide ((c : Int) ≤ 57))
noncomputable def specR (r : Res (V × MS)) (f : Nat → Nat → MS → Res (Option Nat × MS)) : Res (Option Nat × MS) := r.bind fun r => onTup r.1 fun l => onCons l fun a l => onCons l fun b l => onNil l (onInt b fun p => onNone a (.ok (none, r.2)) (onInt a fun s => if 0 ≤ s ∧ 0 ≤ p then f s.toNat p.toNat r.2 else .stuck))
theorem specR_inv {v : V} {σ : MS} {f : Nat → Nat → MS → Res (Option Nat × MS)} (h : specR (.ok (v, σ)) f ≠ .stuck) : (∃ p, v = .tup [.none, .int p] ∧ specR (.ok (v, σ)) f = .ok (none, σ)) ∨ ∃ s p : Nat, v = .tup [.int s, .int p] ∧ specR (.ok (v, σ)) f = f s p σ := by
  obtain ⟨l, rfl, h1⟩ := onTup_ne h
  obtain ⟨a, l, rfl, h2⟩ := jN h1
  obtain ⟨b, l, rfl, h3⟩ := jN h2
  obtain ⟨rfl, h4⟩ := onNil_ne h3
  obtain ⟨p, rfl, h5⟩ := onInt_ne h4
  rcases onNone_inv a (.ok (none, σ)) (onInt a fun s => if 0 ≤ s ∧ 0 ≤ p then f s.toNat p.toNat σ else .stuck) with ⟨rfl, e⟩ | e
  · exact .inl ⟨p, rfl, rfl⟩
  · rw [e] at h5
    obtain ⟨s, rfl, h6⟩ := onInt_ne h5
    split at h6
    · rename_i hc
      obtain ⟨s, rfl⟩ := Int.eq_ofNat_of_zero_le hc.1
      obtain ⟨p, rfl⟩ := Int.eq_ofNat_of_zero_le hc.2
      exact .inr ⟨s, p, rfl, show (if 0 ≤ (s : Int) ∧ 0 ≤ (p : Int) then f s p σ else .stuck) = f s p σ from if_pos hc⟩
    · exact absurd rfl h6
section
variable (γ : GM) (H : Nat → Nat → MS → Res (Option Nat × MS)) (s p : Nat) (σ : MS) (z : Nat)
noncomputable def sing5 : Res (Option Nat × MS) := if isSingle γ.mc.text γ.mc.pat s p z then H (s + 1) (p + z) σ else .ok (none, σ)
noncomputable def sing4 : Res (Option Nat × MS) := if atN γ.mc.pat (p + z) = 63 then (if isSingle γ.mc.text γ.mc.pat s p z then orR (γ.M (s + 1) (p + z + 1) σ) (H s (p + z + 1)) else H s (p + z + 1) σ) else sing5 γ H s p σ z
noncomputable def sing3 : Res (Option Nat × MS) := if atN γ.mc.pat (p + z) = 45 then leastD γ.mc.text γ.mc.pat γ.M p z (γ.mc.text.length + 1) s σ else sing4 γ H s p σ z
noncomputable def sing2 : Res (Option Nat × MS) := if atN γ.mc.pat (p + z) = 43 then (if isSingle γ.mc.text γ.mc.pat s p z then mostD γ.M (p + z + 1) (s + 1) (runN γ.mc.text γ.mc.pat p z (γ.mc.text.length + 1) (s + 1) + 1) σ else .ok (none, σ)) else sing3 γ H s p σ z
noncomputable def singR : Res (Option Nat × MS) := if atN γ.mc.pat (p + z) = 42 then mostD γ.M (p + z + 1) s (runN γ.mc.text γ.mc.pat p z (γ.mc.text.length + 1) s + 1) σ else sing2 γ H s p σ z
noncomputable def here4 : Res (Option Nat × MS) := if decide (atN γ.mc.pat p = 37) && isSpecial (atN γ.mc.pat (p + 1)) then specR (fSpecial γ [.ref γ.mc.x, .int s, .int p, .int (atN γ.mc.pat (p + 1))] σ) H else (jU (γ.mc.pat.drop p)).elim .err (singR γ H s p σ)
noncomputable def here3 : Res (Option Nat × MS) := if atN γ.mc.pat p = 36 ∧ p + 1 = γ.mc.pat.length then .ok (if s = γ.mc.text.length then some s else none, σ) else here4 γ H s p σ
noncomputable def here2 : Res (Option Nat × MS) := if atN γ.mc.pat p = 41 then endD γ.M s (p + 1) σ else here3 γ H s p σ
noncomputable def here1 : Res (Option Nat × MS) := if atN γ.mc.pat p = 40 then (if atN γ.mc.pat (p + 1) = 41 then startD γ.M (-2) s (p + 2) σ else startD γ.M (-1) s (p + 1) σ) else here2 γ H s p σ
noncomputable def here0 : Res (Option Nat × MS) := if s ≤ γ.mc.text.length then (if p < γ.mc.pat.length then here1 γ H s p σ else .ok (some s, σ)) else .stuck
end
noncomputable def hereD (γ : GM) : Nat → Nat → Nat → MS → Res (Option Nat × MS)
  | 0 => fun _ _ _ => .stuck
  | k + 1 => here0 γ (hereD γ k)
noncomputable def hereF (γ : GM) : MM := fun s p σ => if okPat γ.mc.pat = true then hereD γ (γ.mc.pat.length + 1) s p σ else .stuck
theorem g_retR {P : Res ((Out × List V) × MS) → Prop} {K : GM → Dn MS (Out × List V)} {F : GM → Dn MS V} {ρ : List V} {σ : MS} (r : Res (Option Nat × MS)) (h : F γ ρ σ = optR r) (hs : r ≠ .stuck) (he : r = .err → P .err) (k : ∀ o σ', r = .ok (o, σ') → P (.ok ((.ret (optV o), ρ), σ'))) : P (jO (jO (sRetD F) bNilD) K γ ρ σ) := by
  cases r with
  | stuck => exact absurd rfl hs
  | err => show P ((((F γ ρ σ).bind _).bind _).bind _); rw [h]; exact he rfl
  | ok p => exact jE (jQ h (k p.1 p.2 rfl))
theorem fStart_of {s p : Int} {kind : Int} (s' p' : Nat) (hs : s = s') (hp : p = p') (σ : MS) : fStart γ [.ref γ.mc.x, .int s, .int p, .int kind] σ = optR (startD γ.M kind s' p' σ) := by
  subst hs hp; exact (m3_eq _ _ _).trans (if_pos ⟨Int.natCast_nonneg _, Int.natCast_nonneg _⟩)
theorem fEnd_of {s p : Int} (s' p' : Nat) (hs : s = s') (hp : p = p') (σ : MS) : fEnd γ [.ref γ.mc.x, .int s, .int p] σ = optR (endD γ.M s' p' σ) := by
  subst hs hp; exact (m2_eq _ _).trans (if_pos ⟨Int.natCast_nonneg _, Int.natCast_nonneg _⟩)
theorem and_cast (n k : Nat) (b : Bool) : (decide ((n : Int) = (k : Int)) && b) = (decide (n = k) && b) := by rw [dec_cast]
theorem inB_at {c : Nat} (h : c < 256) (b : List UInt8) : evInB (.int c) (.bytes b) = some (.bool (b.any fun x => (x.toNat : Int) == (c : Int))) := if_pos ⟨Int.natCast_nonneg c, Int.ofNat_lt.mpr h⟩
theorem fs_match_here {n : Nat} (hn : 6 ≤ n) (fs_match : FS PW w G (RMw w G γ.mc) 161 n (fM γ)) (fs_start_capture : FS PW w G (RMw w G γ.mc) 210 n (fStart γ)) (fs_end_capture : FS PW w G (RMw w G γ.mc) 217 n (fEnd γ)) (fs_expand_most : FS PW w G (RMw w G γ.mc) 196 n (fMost γ)) (fs_expand_least : FS PW w G (RMw w G γ.mc) 203 n (fLeast γ)) : FS PW w G (RMw w G γ.mc) 168 (n + 1) (fM ⟨γ.mc, hereF γ⟩) := by
  have M := mOk w.params
  refine fs_of γ ["self", "s", "p", "first", "second", "end", "after", "is_here", "found"] 3 rfl rfl ⟨by decide +kernel, rfl, by decide +kernel⟩ (fun hF => (jB (sWhile (fun γ => γ.mc.pat.length + 2) (jI op_lt (jA 2 hF) (eLen (jC (aPat hF M) jK)) rfl) (jB (sExpr (mC0 hF M fs_count)) (jB (sSetW [("first", 3), ("second", 4)] hF (tuple_ (jC (sub_ (aPat hF M) (jA 2 hF)) (jC (mC hF M fs_at (jC (kD jP (jA 2 hF) jG) jK)) jK)))) (jB (sIf (jI jR (jA 3 hF) (eGI (40)) rfl) (jB (sIf (jI jR (jA 4 hF) (eGI (41)) rfl) (jB (sRet (mC hF M fs_start_capture (jC (jA 1 hF) (jC (kD jP (jA 2 hF) jG) (jC (eGI (-2)) jK))))) jF) jF) (jB (sRet (mC hF M fs_start_capture (jC (jA 1 hF) (jC (kD jP (jA 2 hF) jG) (jC (eGI (-1)) jK))))) jF)) jF) (jB (sIf (jI jR (jA 3 hF) (eGI (41)) rfl) (jB (sRet (mC hF M fs_end_capture (jC (jA 1 hF) (jC (kD jP (jA 2 hF) jG) jK)))) jF) jF) (jB (sIf (tBool (andCons (jI jR (jA 3 hF) (eGI (36)) rfl) (andCons (jI jR (kD jP (jA 2 hF) jG) (eLen (jC (aPat hF M) jK)) rfl) andNil))) (jB (sRet (ifexp_ (jI jR (jA 1 hF) (eLen (jC (aText hF M) jK)) rfl) (jA 1 hF) eNone)) jF) jF) (jB (sIf (tBool (andCons (jI jR (jA 3 hF) (eGI (37)) rfl) (andCons (tBool (orCons (jI op_inB (jA 4 hF) (jZ (by decide)) rfl) (orCons (tOf (eC fs_is_digit (jC (jA 4 hF) jK))) orNil))) andNil))) (jB (sSetT 1 2 hF (mC hF M fs_match_special (jC (jA 1 hF) (jC (jA 2 hF) (jC (jA 4 hF) jK))))) (jB (sIf (jI op_is (jA 1 hF) eNone rfl) (jB (sRet eNone) jF) jF) (jB sCont jF))) jF) (jB (sSet 5 hF (mC hF M fs_class_end (jC (jA 2 hF) jK))) (jB (sSet 6 hF (mC hF M fs_at (jC (jA 5 hF) jK))) (jB (sIf (jI jR (jA 6 hF) (eGI (42)) rfl) (jB (sRet (mC hF M fs_expand_most (jC (jA 1 hF) (jC (jA 2 hF) (jC (jA 5 hF) jK))))) jF) jF) (jB (sIf (jI jR (jA 6 hF) (eGI (43)) rfl) (jB (sRet (ifexp_ (tOf (mC hF M fs_is_single (jC (jA 1 hF) (jC (jA 2 hF) (jC (jA 5 hF) jK))))) (mC hF M fs_expand_most (jC (kD jP (jA 1 hF) jG) (jC (jA 2 hF) (jC (jA 5 hF) jK)))) eNone)) jF) jF) (jB (sIf (jI jR (jA 6 hF) (eGI (45)) rfl) (jB (sRet (mC hF M fs_expand_least (jC (jA 1 hF) (jC (jA 2 hF) (jC (jA 5 hF) jK))))) jF) jF) (jB (sSet 7 hF (mC hF M fs_is_single (jC (jA 1 hF) (jC (jA 2 hF) (jC (jA 5 hF) jK))))) (jB (sIf (jI jR (jA 6 hF) (eGI (63)) rfl) (jB (sIf (tOf (jA 7 hF)) (jB (sSet 8 hF (mC hF M fs_match (jC (kD jP (jA 1 hF) jG) (jC (kD jP (jA 5 hF) jG) jK)))) (jB (sIf (jI op_isnot (jA 8 hF) eNone rfl) (jB (sRet (jA 8 hF)) jF) jF) jF)) jF) (jB (sSet 2 hF (kD jP (jA 5 hF) jG)) (jB sCont jF))) jF) (jB (sIf (tNot (tOf (jA 7 hF))) (jB (sRet eNone) jF) jF) (jB (sSetW [("s", 1), ("p", 2)] hF (tuple_ (jC (kD jP (jA 1 hF) jG) (jC (jA 5 hF) jK)))) jF)))))))))))))))) (jB (sRet (jA 1 hF)) jF))) (args3 fun _ _ _ => rfl) (kindLoc (by decide +kernel)) (by decide) rfl rfl (hw_m2 fun s p σ h => ?_)
  split at h
  · rename_i hp
    rw [if_pos hp]
    obtain ⟨s, rfl⟩ := Int.eq_ofNat_of_zero_le hp.1
    obtain ⟨p, rfl⟩ := Int.eq_ofNat_of_zero_le hp.2
    have hs : hereF γ s p σ ≠ .stuck := optR_ne h
    clear h
    show Ev (optR (hereF γ s p σ)) _
    rw [hereF] at hs ⊢
    split at hs
    · rename_i hok
      rw [if_pos hok]
      generalize hR : hereD γ (γ.mc.pat.length + 1) s p σ = R at hs ⊢
      refine g_while (fun m ρ σ => ∃ (q p : Nat) (j3 j4 j5 j6 j7 j8 : V), ρ = [.ref γ.mc.x, .int q, .int p, j3, j4, j5, j6, j7, j8] ∧ hereD γ m q p σ = R) (γ.mc.pat.length + 1) (Nat.lt_succ_self _) ⟨s, p, _, _, _, _, _, _, rfl, hR⟩ ?_
      rintro m ρ σ ⟨q, p, j3, j4, j5, j6, j7, j8, rfl, hR⟩ Q qq
      cases m with
      | zero => exact absurd hR.symm hs
      | succ m =>
      have hR : here0 γ (hereD γ m) q p σ = R := hR
      by_cases hq : q ≤ γ.mc.text.length
      case neg => exact absurd (hR.symm.trans (if_neg hq)) hs
      have hR : (if p < γ.mc.pat.length then here1 γ (hereD γ m) q p σ else .ok (some q, σ)) = R := (if_pos hq).symm.trans hR
      refine lt_lt p γ.mc.pat.length (jJ rfl (e_len e_pat rfl) rfl) (fun hl => ?_) (fun hl => ?_)
      case refine_2 => exact jQ rfl (congrArg optR ((if_neg hl).symm.trans hR))
      have hR : here1 γ (hereD γ m) q p σ = R := (if_pos hl).symm.trans hR
      have ret : ∀ o ρ σ', R = .ok (o, σ') → Q (.ok ((.ret (optV o), ρ), σ')) := fun o ρ σ' e => qq.ret _ _ _ (by rw [e]; rfl)
      have bad : R = .err → Q .err := fun e => qq.err (by rw [e]; rfl)
      refine g_expr e_count (g_set2 (e_item p rfl rfl hl) (e_at (p + 1) rfl rfl) (g_eq (atN γ.mc.pat p) 40 rfl (fun h40 => ?_) (fun h40 => jL (g_eq (atN γ.mc.pat p) 41 rfl (fun h41 => ?_) (fun h41 => jL (g_if (atN γ.mc.pat p = 36 ∧ p + 1 = γ.mc.pat.length) (t_and2 rfl (jJ rfl (e_len e_pat rfl) rfl) (dec_and2e _ 36 (p + 1) _)) (fun h36 => ?_) (fun h36 => jL (g_b (decide (atN γ.mc.pat p = 37) && isSpecial (atN γ.mc.pat (p + 1))) (t_and2 rfl (t_or2 (jJ rfl rfl (inB_at (atN_lt _ _) _)) (t_of (e_c (jD rfl jX) rfl)) rfl) (and_cast _ 37 _)) (fun hsp => ?_) (fun hsp => jL ?_)))))))))
      · have hR := (if_pos h40).symm.trans hR
        refine jE (g_eq (atN γ.mc.pat (p + 1)) 41 rfl (fun h41 => ?_) (fun h41 => jL ?_))
        · exact g_retR R ((e_m (jD rfl (jD rfl (jD rfl jX))) (fStart_of q (p + 2) rfl rfl σ)).trans (congrArg optR ((if_pos h41).symm.trans hR))) hs bad fun o σ' e => ret o _ σ' e
        · exact g_retR R ((e_m (jD rfl (jD rfl (jD rfl jX))) (fStart_of q (p + 1) rfl rfl σ)).trans (congrArg optR ((if_neg h41).symm.trans hR))) hs bad fun o σ' e => ret o _ σ' e
      · have hR : here2 γ (hereD γ m) q p σ = R := (if_neg h40).symm.trans hR
        exact g_retR R ((e_m (jD rfl (jD rfl jX)) (fEnd_of q (p + 1) rfl rfl σ)).trans (congrArg optR ((if_pos h41).symm.trans hR))) hs bad fun o σ' e => ret o _ σ' e
      · have hR : here2 γ (hereD γ m) q p σ = R := (if_neg h40).symm.trans hR
        have hR : here3 γ (hereD γ m) q p σ = R := (if_neg h41).symm.trans hR
        have hR := (if_pos h36).symm.trans hR
        by_cases hz : q = γ.mc.text.length
        · rw [if_pos hz] at hR
          exact jE (jQ (e_ifT (jJ rfl (e_len e_text rfl) (sbT (Int.ofNat_inj.mpr hz))) rfl) (ret (some q) _ σ hR.symm))
        · rw [if_neg hz] at hR
          exact jE (jQ (e_ifF (jJ rfl (e_len e_text rfl) (sbF fun z => hz (Int.ofNat_inj.mp z))) rfl) (ret none _ σ hR.symm))
      · have hR : here2 γ (hereD γ m) q p σ = R := (if_neg h40).symm.trans hR
        have hR : here3 γ (hereD γ m) q p σ = R := (if_neg h41).symm.trans hR
        have hR : here4 γ (hereD γ m) q p σ = R := (if_neg h36).symm.trans hR
        have hR := (if_pos hsp).symm.trans hR
        cases hv : fSpecial γ [.ref γ.mc.x, .int q, .int p, .int (atN γ.mc.pat (p + 1))] σ with
        | stuck => rw [hv] at hR; exact absurd hR.symm hs
        | err => rw [hv] at hR; exact jE (g_setTE (e_m (jD rfl (jD rfl (jD rfl jX))) hv) (bad hR.symm))
        | ok v =>
          obtain ⟨v, σ'⟩ := v
          rw [hv] at hR
          rcases specR_inv (by rw [hR]; exact hs) with ⟨p', rfl, e⟩ | ⟨s', p', rfl, e⟩
          · exact jE (g_setT (e_m (jD rfl (jD rfl (jD rfl jX))) hv) (jE (g_t rfl (jE (jQ (v := .none) rfl (ret none _ σ' (hR.symm.trans e)))))))
          · exact jE (g_setT (e_m (jD rfl (jD rfl (jD rfl jX))) hv) (jE (g_f rfl (jL (jE (g_cont (qq.cont m _ _ (Nat.lt_succ_self m) ⟨s', p', _, _, _, _, _, _, rfl, e.symm.trans hR⟩)))))))
      · have hR : here2 γ (hereD γ m) q p σ = R := (if_neg h40).symm.trans hR
        have hR : here3 γ (hereD γ m) q p σ = R := (if_neg h41).symm.trans hR
        have hR : here4 γ (hereD γ m) q p σ = R := (if_neg h36).symm.trans hR
        have hR := (if_neg (by rw [hsp]; decide)).symm.trans hR
        have ce := fClassEnd_of p rfl hl σ
        cases hz : jU (γ.mc.pat.drop p) with
        | none =>
          rw [hz] at ce hR
          exact g_setE (e_m (jD rfl jX) ce) (bad hR.symm)
        | some z =>
        rw [hz] at ce hR
        have hR : singR γ (hereD γ m) q p σ z = R := hR
        have si := fIsSingle_of q p z rfl rfl rfl hok hz σ
        refine kC (v := .int (p + z : Nat)) (e_m (jD rfl jX) ce) (kC (e_at (p + z) rfl rfl) (g_eq (atN γ.mc.pat (p + z)) 42 rfl (fun h42 => ?_) (fun h42 => jL (g_eq (atN γ.mc.pat (p + z)) 43 rfl (fun h43 => ?_) (fun h43 => jL (g_eq (atN γ.mc.pat (p + z)) 45 rfl (fun h45 => ?_) (fun h45 => jL (kC (e_m (jD rfl (jD rfl (jD rfl jX))) si) (g_eq (atN γ.mc.pat (p + z)) 63 rfl (fun h63 => ?_) (fun h63 => jL ?_))))))))))
        · exact g_retR R ((e_m (jD rfl (jD rfl (jD rfl jX))) (single3_of q p z rfl rfl rfl hok hz σ)).trans (congrArg optR ((if_pos h42).symm.trans hR))) hs bad fun o σ' e => ret o _ σ' e
        · have hR : sing2 γ (hereD γ m) q p σ z = R := (if_neg h42).symm.trans hR
          have hR := (if_pos h43).symm.trans hR
          cases hb : isSingle γ.mc.text γ.mc.pat q p z with
          | true =>
            rw [hb] at hR
            exact g_retR R ((e_ifT (t_ofb (e_m (jD rfl (jD rfl (jD rfl jX))) si) hb) (e_m (jD rfl (jD rfl (jD rfl jX))) (single3_of (q + 1) p z rfl rfl rfl hok hz σ))).trans (congrArg optR hR)) hs bad fun o σ' e => ret o _ σ' e
          | false =>
            rw [hb] at hR
            exact jE (jQ (e_ifF (t_ofb (e_m (jD rfl (jD rfl (jD rfl jX))) si) hb) rfl) (ret none _ σ hR.symm))
        · have hR : sing2 γ (hereD γ m) q p σ z = R := (if_neg h42).symm.trans hR
          have hR : sing3 γ (hereD γ m) q p σ z = R := (if_neg h43).symm.trans hR
          exact g_retR R ((e_m (jD rfl (jD rfl (jD rfl jX))) (single3_of q p z rfl rfl rfl hok hz σ)).trans (congrArg optR ((if_pos h45).symm.trans hR))) hs bad fun o σ' e => ret o _ σ' e
        · have hR : sing2 γ (hereD γ m) q p σ z = R := (if_neg h42).symm.trans hR
          have hR : sing3 γ (hereD γ m) q p σ z = R := (if_neg h43).symm.trans hR
          have hR : sing4 γ (hereD γ m) q p σ z = R := (if_neg h45).symm.trans hR
          have hR := (if_pos h63).symm.trans hR
          have go : ∀ (j8 : V) (σ' : MS), hereD γ m q (p + z + 1) σ' = R → Q (.ok ((.cont, [.ref γ.mc.x, .int q, .int (p + z + 1 : Nat), .int (atN γ.mc.pat p), .int (atN γ.mc.pat (p + 1)), .int (p + z : Nat), .int (atN γ.mc.pat (p + z)), .bool (isSingle γ.mc.text γ.mc.pat q p z), j8]), σ')) := fun j8 σ' e => qq.cont m _ _ (Nat.lt_succ_self m) ⟨q, p + z + 1, _, _, _, _, _, j8, rfl, e⟩
          refine jE (g_b _ (t_of rfl) (fun hb => ?_) (fun hb => ?_))
          · rw [hb] at hR
            refine jE (g_call (γ.M (q + 1) (p + z + 1) σ) (e_m (jD rfl (jD rfl jX)) (fM_of (q + 1) (p + z + 1) rfl rfl σ)) (fun e => hs (by rw [← hR, e]; rfl)) (fun e => bad (by rw [← hR, e]; rfl)) (fun o σ' e => ?_))
            rw [e] at hR
            cases o with
            | some f => exact jE (g_t rfl (jE (jQ rfl (ret (some f) _ σ' hR.symm))))
            | none => exact jE (g_f rfl (jL (jL (jE (kC (v := .int (p + z + 1 : Nat)) rfl (jE (g_cont (go _ σ' hR))))))))
          · rw [hb] at hR
            exact jL (jE (kC (v := .int (p + z + 1 : Nat)) rfl (jE (g_cont (go _ σ hR)))))
        · have hR : sing2 γ (hereD γ m) q p σ z = R := (if_neg h42).symm.trans hR
          have hR : sing3 γ (hereD γ m) q p σ z = R := (if_neg h43).symm.trans hR
          have hR : sing4 γ (hereD γ m) q p σ z = R := (if_neg h45).symm.trans hR
          have hR : sing5 γ (hereD γ m) q p σ z = R := (if_neg h63).symm.trans hR
          have hR : (if isSingle γ.mc.text γ.mc.pat q p z then hereD γ m (q + 1) (p + z) σ else .ok (none, σ)) = R := hR
          refine g_b _ (t_not (t_of rfl)) (fun hb => ?_) (fun hb => ?_)
          · rw [(Bool.not_eq_true' _).mp hb] at hR
            exact jE (jQ rfl (ret none _ σ hR.symm))
          · rw [(Bool.not_eq_false' _).mp hb] at hR
            exact jL (g_set2 (x := .int (q + 1 : Nat)) rfl rfl (qq.next m _ _ (Nat.lt_succ_self m) ⟨q + 1, p + z, _, _, _, _, _, _, rfl, hR⟩))
    · exact absurd rfl hs
  · exact absurd rfl h
end
section
variable {w : World} {G : Gd (KF w.params)} {γ : GM}
set_option maxHeartbeats 4000000
theorem FS.mono {prog : Program} {w : World} {KK : Frag} {G : Gd KK} {Sy : Type} {R : StRep Sy} {fa : Addr} {m n : Nat} {F : List V → Sy → Res (V × Sy)} (h : FS prog w G R fa m F) (hm : m ≤ n) : FS prog w G R fa n F :=
  fun A l s σ vs xs Q E hA => h A l s σ vs xs Q E (hA.le hm)
noncomputable def mMatch (mc : MC) : Nat → MM
  | 0 => fun _ _ _ => .stuck
  | k + 1 => matchD (hereF ⟨mc, mMatch mc k⟩)
theorem fs_mMatch {mc : MC} : ∀ k, FS PW w G (RMw w G mc) 161 (3 * k + 10) (fM ⟨mc, mMatch mc k⟩)
  | 0 => fun A l s σ vs xs Q E hA hc hr hQ hE hS => by
    obtain ⟨_, _, _, h⟩ := m2_ne hS
    split at h <;> exact absurd rfl h
  | k + 1 =>
    have ih := fs_mMatch k
    fs_match (γ := ⟨mc, hereF ⟨mc, mMatch mc k⟩⟩) (Nat.le_add_left 3 (3 * k + 9)) (fs_match_here (γ := ⟨mc, mMatch mc k⟩) (Nat.le_add_left 6 (3 * k + 5)) (ih.mono (Nat.le_succ _)) (fs_start_capture ih) (fs_end_capture (Nat.le_add_left 3 (3 * k + 7)) ih) (fs_expand_most (Nat.le_add_left 5 (3 * k + 5)) ih) (fs_expand_least (Nat.le_add_left 5 (3 * k + 5)) ih))
noncomputable def searchD (mc : MC) (M : MM) (anch : Bool) (p : Nat) : Nat → Nat → MS → Res (Option (Nat × Nat) × MS)
  | 0, _, _ => .stuck
  | n + 1, s, σ => if s ≤ mc.text.length then (M s p ⟨0, 0, [], []⟩).bind fun r => r.1.elim (if anch = true then .ok (none, r.2) else searchD mc M anch p n (s + 1) r.2) fun e => .ok (some (s, e), r.2)
    else .ok (none, σ)
noncomputable def pairV (o : Option (Nat × Nat)) : V := o.elim .none fun p => .tup [.int p.1, .int p.2]
noncomputable def pairR (r : Res (Option (Nat × Nat) × MS)) : Res (V × MS) := r.bind fun r => .ok (pairV r.1, r.2)
noncomputable def fSearch (γ : GM) : List V → MS → Res (V × MS) := m2b γ.mc fun i p b σ => if 0 ≤ i ∧ 0 ≤ p then pairR (searchD γ.mc γ.M b p.toNat (γ.mc.text.length + 2) i.toNat σ) else .stuck
theorem fs_search {n : Nat} (hn : 3 ≤ n) (fs_match : FS PW w G (RMw w G γ.mc) 161 n (fM γ)) : FS PW w G (RMw w G γ.mc) 250 (n + 1) (fSearch γ) := by
  have M := mOk w.params
  refine fs_of γ ["self", "init", "p", "is_anchored", "s", "end"] 4 rfl rfl ⟨by decide +kernel, rfl, by decide +kernel⟩ (fun hF => (jB (sSet 4 hF (jA 1 hF)) (jB (sWhile (fun γ => γ.mc.text.length + 3) (jI op_le (jA 4 hF) (eLen (jC (aText hF M) jK)) rfl) (jB (sExpr (mC0 hF M fs_reset)) (jB (sSet 5 hF (mC hF M fs_match (jC (jA 4 hF) (jC (jA 2 hF) jK)))) (jB (sIf (jI op_isnot (jA 5 hF) eNone rfl) (jB (sRet (tuple_ (jC (jA 4 hF) (jC (jA 5 hF) jK)))) jF) jF) (jB (sIf (tOf (jA 3 hF)) (jB (sRet eNone) jF) jF) (jB (sAug 4 hF op_iadd jG) jF)))))) (jB (sRet eNone) jF)))) (args4 fun _ _ _ _ => rfl) (kindLoc (by decide +kernel)) (by decide) rfl rfl (hw_m2b fun i p b σ h => ?_)
  split at h
  · rename_i hp
    rw [if_pos hp]
    obtain ⟨s, rfl⟩ := Int.eq_ofNat_of_zero_le hp.1
    obtain ⟨p, rfl⟩ := Int.eq_ofNat_of_zero_le hp.2
    have hs : searchD γ.mc γ.M b p (γ.mc.text.length + 2) s σ ≠ .stuck := fun e => h (by show pairR (searchD γ.mc γ.M b p (γ.mc.text.length + 2) s σ) = _; rw [e]; rfl)
    clear h
    show Ev (pairR (searchD γ.mc γ.M b p (γ.mc.text.length + 2) s σ)) _
    generalize hR : searchD γ.mc γ.M b p (γ.mc.text.length + 2) s σ = R at hs ⊢
    refine kC rfl (g_while (fun m ρ σ => ∃ (q : Nat) (j : V), ρ = [.ref γ.mc.x, .int s, .int p, .bool b, .int q, j] ∧ searchD γ.mc γ.M b p m q σ = R) (γ.mc.text.length + 2) (Nat.lt_succ_self _) ⟨s, _, rfl, hR⟩ ?_)
    rintro m ρ σ ⟨q, j, rfl, hR⟩ Q qq
    cases m with
    | zero => exact absurd hR.symm hs
    | succ m =>
    have hR : (if q ≤ γ.mc.text.length then _ else _) = R := hR
    refine lt_if _ (jJ rfl (e_len e_text rfl) rfl) (fun hq => ?_) (fun hq => ?_)
    · rw [if_pos (Int.ofNat_le.mp hq)] at hR
      refine g_expr (e_m0 (onM_self _ _)) (g_call (γ.M q p ⟨0, 0, [], []⟩) (e_m (jD rfl (jD rfl jX)) (fM_of q p rfl rfl _)) (fun e => hs (by rw [← hR, e]; rfl)) (fun e => qq.err (by rw [← hR, e]; rfl)) (fun o σ' e => ?_))
      rw [e] at hR
      cases o with
      | some f => exact g_t rfl (jE (jQ (e_tup2 rfl rfl) (qq.ret _ _ _ (by rw [← hR]; rfl))))
      | none =>
        refine g_f rfl (jL (g_b b (t_of rfl) (fun hb => ?_) (fun hb => ?_)))
        · rw [hb] at hR
          exact jE (jQ rfl (qq.ret _ _ _ (by rw [← hR]; rfl)))
        · have hR : (if b = true then _ else _) = R := hR
          rw [if_neg (by rw [hb]; decide)] at hR
          exact jL (g_aug (.int (q + 1 : Nat)) rfl rfl rfl (qq.next m _ _ (Nat.lt_succ_self m) ⟨q + 1, _, rfl, hR⟩))
    · rw [if_neg fun z => hq (Int.ofNat_le.mpr z)] at hR
      exact jQ rfl (by rw [← hR]; rfl)
  · exact absurd rfl h
end
section
variable {w : World} {G : Gd (KF w.params)} {γ : GM}
set_option maxHeartbeats 4000000
noncomputable def capL (γ : GM) (s e : Int) : List V → MS → Res (List V × MS)
  | [], σ => .ok ([], σ)
  | v :: l, σ => (fCapture γ [.ref γ.mc.x, v, .int s, .int e] σ).bind fun q => (capL γ s e l q.2).bind fun r => .ok (q.1 :: r.1, r.2)
noncomputable def fCaptures (γ : GM) : List V → MS → Res (V × MS) := m2b γ.mc fun s e b σ => if 0 ≤ σ.level ∧ σ.level ≤ 90 then (capL γ s e (rangeL 0 (if σ.level = 0 ∧ b = true then 1 else σ.level)) σ).bind fun r => .ok (.lst r.1, r.2) else .stuck
noncomputable def plainV : V → Bool | .int _ => true | .bytes _ => true | _ => false
theorem fCapture_flat {xs : List V} {σ σ' : MS} {v : V} (h : fCapture γ xs σ = .ok (v, σ')) : plainV v = true := by
  obtain ⟨a, b, c, rfl, _⟩ := m3_ne (r := _) (fun e : fCapture γ xs σ = .stuck => by rw [h] at e; cases e)
  have h := (m3_eq a b c).symm.trans h
  split at h
  · split at h
    · split at h
      · cases h
      · cases h; rfl
    · rw [capR] at h
      split at h
      · cases h
      · split at h <;> cases h <;> rfl
  · cases h
theorem Rep.plain {X X' : List Addr} {h : Heap} {vv : Value} {v : V} (hf : plainV v = true) (r : Rep X h vv v) : Rep X' h vv v := by
  cases r with
  | int i t => exact .int i t
  | bytes b t hz => exact .bytes b t hz
  | _ => cases hf
theorem cap_flat {Fs : GM → Dn MS (List V)} (X X' : List Addr) (h : Heap) (vv : Value) (v : V) (ρ : List V) (σ σ' : MS) (e : mCallD GM.mc fCapture Fs γ ρ σ = .ok (v, σ')) (r : rdV X h vv v) : rdV X' h vv v := by
  have e : onSelf γ.mc ρ _ = _ := e
  rw [(onSelf_ok (by rw [e]; intro z; cases z)).2] at e
  obtain ⟨p, _, e⟩ := Res.bind_eq_ok e
  exact Rep.plain (fCapture_flat e) r
theorem rangeL_length (a b : Int) : (rangeL a b).length = (b - a).toNat := by rw [rangeL, List.length_map, List.length_range]
theorem rangeL_ints {a b : Int} {v : V} (h : v ∈ rangeL a b) : ∃ i, v = .int i := by
  obtain ⟨j, _, rfl⟩ := List.mem_map.mp h
  exact ⟨_, rfl⟩
theorem compD_capL {s e : Int} : ∀ (l : List V) (σ : MS), (∀ v ∈ l, ∃ i, v = V.int i) → compD (fun v => [.ref γ.mc.x, .int s, .int e] ++ [v]) (xNilD γ) (mCallD GM.mc fCapture (jM (jY 3) (jM (jY 1) (jM (jY 2) lNilD))) γ) l σ = capL γ s e l σ
  | [], σ, _ => rfl
  | v :: l, σ, h => by
    obtain ⟨i, rfl⟩ := h v (.head _)
    have e1 : mCallD GM.mc fCapture (jM (jY 3) (jM (jY 1) (jM (jY 2) lNilD))) γ [.ref γ.mc.x, .int s, .int e, .int i] σ = fCapture γ [.ref γ.mc.x, .int i, .int s, .int e] σ := e_m (jD rfl (jD rfl (jD rfl jX))) rfl
    show (mCallD GM.mc fCapture (jM (jY 3) (jM (jY 1) (jM (jY 2) lNilD))) γ [.ref γ.mc.x, .int s, .int e, .int i] σ).bind _ = _
    rw [e1]
    show _ = Res.bind (fCapture γ [.ref γ.mc.x, .int i, .int s, .int e] σ) _
    congr 1; funext q
    rw [compD_capL l q.2 fun v hv => h v (.tail _ hv)]
theorem evRange1 {b : Int} (h : b.natAbs ≤ 5000) : evRange [.int b] = some (rangeL 0 b) := if_pos h
theorem lev_le {l m : Int} (h : 0 ≤ l ∧ l ≤ 90) (hm : m = 1 ∨ m = l) : (rangeL 0 m).length ≤ 4096 ∧ m.natAbs ≤ 5000 := by
  rw [rangeL_length]; omega
theorem fs_captures : FS PW w G (RMw w G γ.mc) 243 (3 + 1) (fCaptures γ) := by
  have M := mOk w.params
  refine fs_of γ ["self", "s", "end", "is_whole", "many"] 4 rfl rfl ⟨by decide +kernel, rfl, by decide +kernel⟩ (fun hF => (jB (sSet 4 hF (ifexp_ (tBool (andCons (jI jR (aInt .level hF M) jG rfl) (andCons (tOf (jA 3 hF)) andNil))) jG (aInt .level hF M))) (jB (sRet (eComp [("self", 0), ("s", 1), ("end", 2)] ⟨by decide +kernel, rfl, by decide +kernel, by decide +kernel, by decide +kernel, by decide +kernel⟩ (iRange rfl rfl rfl (jC (jA 4 hF) jK) rfl (by decide +kernel)) (fun D vs => xNil) (fun D vs => Snd.lift (mC ⟨by decide +kernel, rfl, by decide +kernel⟩ M fs_capture (jC (jA 3 ⟨by decide +kernel, rfl, by decide +kernel⟩) (jC (jA 1 ⟨by decide +kernel, rfl, by decide +kernel⟩) (jC (jA 2 ⟨by decide +kernel, rfl, by decide +kernel⟩) jK)))) cap_flat (fun ob sl h => h)))) jF))) (args4 fun _ _ _ _ => rfl) (kindCell (by decide +kernel) (fun _ => rfl) (kindCell (by decide +kernel) (fun _ => rfl) (kindCell (by decide +kernel) (fun _ => rfl) (kindLoc (by decide +kernel))))) (by decide) rfl rfl (hw_m2b fun s e b σ h => ?_)
  split at h
  · rename_i hp
    rw [if_pos hp]
    have hl := lev_le (m := if σ.level = 0 ∧ b = true then 1 else σ.level) hp ((Decidable.em (σ.level = 0 ∧ b = true)).imp (fun h => if_pos h) fun h => if_neg h)
    refine kC (v := .int (if σ.level = 0 ∧ b = true then 1 else σ.level)) (σ₁ := σ) ?_ (ev_ret ?_)
    · by_cases hc : σ.level = 0 ∧ b = true
      · rw [if_pos hc]; exact e_ifT (t_and2 (jJ e_int rfl rfl) (t_of rfl) (by rw [hc.2]; exact (Bool.and_true _).trans (decide_eq_true hc.1))) rfl
      · rw [if_neg hc]
        refine e_ifF (t_and2 (jJ e_int rfl rfl) (t_of rfl) ?_) e_int
        cases b
        · exact Bool.and_false _
        · exact (Bool.and_true _).trans (decide_eq_false fun z => hc ⟨z, rfl⟩)
    · generalize (if σ.level = 0 ∧ b = true then 1 else σ.level) = m at hl ⊢
      show (iRangeD (jM (jY 4) lNilD) γ _ σ).bind _ = _
      rw [show iRangeD (jM (jY 4) lNilD) γ _ σ = .ok (rangeL 0 m, σ) from (by show (jV (evRange [.int m])).bind _ = _; rw [evRange1 hl.2]; rfl)]
      show (if (rangeL 0 m).length ≤ 4096 then _ else _) = _
      rw [if_pos hl.1]
      exact congrArg (fun r => Res.bind r _) (compD_capL (rangeL 0 m) σ fun v hv => rangeL_ints hv)
  · exact absurd rfl h
end
section
variable {w : World} {G : Gd (KF w.params)} {γ : GM}
set_option maxHeartbeats 4000000
section
variable {Γ Sy : Type} {γ : Γ} {R : StRep Sy} {u : List V}
noncomputable def onBytes {α : Type} (x : V) (k : List UInt8 → Res α) : Res α := match x with | .bytes a => k a | _ => .stuck
theorem onBytes_ne {α : Type} {x : V} {k : List UInt8 → Res α} (h : onBytes x k ≠ .stuck) : ∃ a, x = .bytes a ∧ k a ≠ .stuck := by
  cases x with
  | bytes a => exact ⟨a, rfl, h⟩
  | _ => exact absurd rfl h
noncomputable def b1 (r : List UInt8 → Sy → Res (V × Sy)) : List V → Sy → Res (V × Sy) := fun xs σ => onCons xs fun x l => onBytes x fun x => onNil l (r x σ)
noncomputable def bi (r : List UInt8 → Int → Sy → Res (V × Sy)) : List V → Sy → Res (V × Sy) := fun xs σ => onCons xs fun x l => onBytes x fun x => onCons l fun a l => onInt a fun a => onNil l (r x a σ)
noncomputable def bbi (r : List UInt8 → List UInt8 → Int → Sy → Res (V × Sy)) : List V → Sy → Res (V × Sy) := fun xs σ => onCons xs fun x l => onBytes x fun x => onCons l fun y l => onBytes y fun y => onCons l fun a l => onInt a fun a => onNil l (r x y a σ)
theorem hw_b1 {F : Γ → Dn Sy (Out × List V)} {r : List UInt8 → Sy → Res (V × Sy)} (h : ∀ a σ, r a σ ≠ .stuck → Ev (r a σ) (F γ (.bytes a :: u) σ)) (xs : List V) (σ : Sy) (hs : b1 r xs σ ≠ .stuck) :
    xs.length = 1 ∧ ((F γ (xs ++ u) σ).bind fun p => .ok (retOf p.1.1, p.2)) = b1 r xs σ := by
  obtain ⟨_, _, rfl, h1⟩ := jN hs
  obtain ⟨a, rfl, h2⟩ := onBytes_ne h1
  obtain ⟨rfl, h3⟩ := onNil_ne h2
  exact ⟨rfl, h a σ h3⟩
theorem hw_bi {F : Γ → Dn Sy (Out × List V)} {r : List UInt8 → Int → Sy → Res (V × Sy)} (h : ∀ a b σ, r a b σ ≠ .stuck → Ev (r a b σ) (F γ (.bytes a :: .int b :: u) σ)) (xs : List V) (σ : Sy) (hs : bi r xs σ ≠ .stuck) :
    xs.length = 2 ∧ ((F γ (xs ++ u) σ).bind fun p => .ok (retOf p.1.1, p.2)) = bi r xs σ := by
  obtain ⟨_, _, rfl, h1⟩ := jN hs
  obtain ⟨a, rfl, h2⟩ := onBytes_ne h1
  obtain ⟨_, _, rfl, h3⟩ := jN h2
  obtain ⟨b, rfl, h4⟩ := onInt_ne h3
  obtain ⟨rfl, h5⟩ := onNil_ne h4
  exact ⟨rfl, h a b σ h5⟩
theorem hw_bbi {F : Γ → Dn Sy (Out × List V)} {r : List UInt8 → List UInt8 → Int → Sy → Res (V × Sy)} (h : ∀ a b c σ, r a b c σ ≠ .stuck → Ev (r a b c σ) (F γ (.bytes a :: .bytes b :: .int c :: u) σ)) (xs : List V) (σ : Sy) (hs : bbi r xs σ ≠ .stuck) :
    xs.length = 3 ∧ ((F γ (xs ++ u) σ).bind fun p => .ok (retOf p.1.1, p.2)) = bbi r xs σ := by
  obtain ⟨_, _, rfl, h1⟩ := jN hs
  obtain ⟨a, rfl, h2⟩ := onBytes_ne h1
  obtain ⟨_, _, rfl, h3⟩ := jN h2
  obtain ⟨b, rfl, h4⟩ := onBytes_ne h3
  obtain ⟨_, _, rfl, h5⟩ := jN h4
  obtain ⟨c, rfl, h6⟩ := onInt_ne h5
  obtain ⟨rfl, h7⟩ := onNil_ne h6
  exact ⟨rfl, h a b c σ h7⟩
theorem cutN {α : Type} (l : List α) (a b : Nat) {i j : Int} (hi : i = a) (hj : j = b) : cut l (some i) (some j) = (l.drop a).take (b - a) := by
  subst hi hj
  simp only [cut, Option.elim, clipAt_nat]
  by_cases h : a < l.length
  · rw [show min a l.length = a from Nat.min_eq_left (by omega)]
    by_cases hb : b ≤ l.length
    · rw [show min b l.length = b from Nat.min_eq_left hb]
    · rw [show min b l.length = l.length from Nat.min_eq_right (by omega), List.take_of_length_le (by simp), List.take_of_length_le (by simp; omega)]
  · rw [List.drop_eq_nil_of_le (show l.length ≤ min a l.length by omega), List.drop_eq_nil_of_le (show l.length ≤ a by omega)]
    simp
theorem cut1 {α : Type} (l : List α) (q : Nat) {i j : Int} (hi : i = q) (hj : j = (q + 1 : Nat)) : cut l (some i) (some j) = (l.drop q).take 1 := by
  rw [cutN l q (q + 1) hi hj, Nat.add_sub_cancel_left]
theorem dec_take1 (row : List UInt8) (q : Nat) {k : UInt8} (hk : k.toNat ≠ 0) : decide ((row.drop q).take 1 = [k]) = decide (atN row q = k.toNat) := by
  refine decide_eq_decide.mpr ?_
  by_cases h : q < row.length
  · obtain ⟨c, r, hd, hat, _⟩ := jT h
    rw [hd, hat]
    exact ⟨fun e => congrArg UInt8.toNat (List.cons.inj e).1, fun e => congrArg (fun z => [z]) (UInt8.toNat_inj.mp e)⟩
  · rw [(jS h).1, (jS h).2]
    exact ⟨fun e => (nomatch e), fun e => absurd e.symm hk⟩
theorem dec_cut1 (row : List UInt8) (q : Nat) {i j : Int} (hi : i = q) (hj : j = (q + 1 : Nat)) {k : UInt8} (hk : k.toNat ≠ 0) : decide (cut row (some i) (some j) = [k]) = decide (atN row q = k.toNat) := by
  rw [cut1 row q hi hj]; exact dec_take1 row q hk
theorem dec_cut0 (row : List UInt8) {k : UInt8} (hk : k.toNat ≠ 0) : decide (cut row none (some 1) = [k]) = decide (atN row 0 = k.toNat) := by
  rw [show cut row none (some 1) = (row.drop 0).take 1 from cut_take row 1]; exact dec_take1 row 0 hk
noncomputable def szR {S : Type} (σ : S) (p : Nat) : Option Nat → Res (V × S)
  | none => .ok (.int 0, σ)
  | some z => .ok (.int ((p + z : Nat) : Int), σ)
theorem szR_map {S : Type} (σ : S) (p k : Nat) (o : Option Nat) : szR σ p (o.map (· + k)) = szR σ (p + k) o := by
  cases o with
  | none => rfl
  | some z => show Res.ok (V.int ((p + (z + k) : Nat) : Int), σ) = Res.ok (V.int ((p + k + z : Nat) : Int), σ); rw [Nat.add_right_comm, Nat.add_assoc]
theorem szR_zero {S : Type} (σ : S) (o : Option Nat) : szR σ 0 o = .ok (.int (o.getD 0 : Nat), σ) := by
  cases o with
  | none => rfl
  | some z => show Res.ok (V.int ((0 + z : Nat) : Int), σ) = _; rw [Nat.zero_add]; rfl
noncomputable def fSetSize {Γ S : Type} (_ : Γ) : List V → S → Res (V × S) := b1 fun row σ => if row.length ≤ 4096 then .ok (.int ((setSize (row.drop 1)).getD 0 : Nat), σ) else .stuck
theorem fs_law_set_size {R : StRep (Addr × List V)} : FS PW w G R 272 (0 + 1) (fSetSize ()) := by
  have M := mOk w.params
  refine fs_of () ["row", "at", "is_first"] 1 rfl rfl ⟨by decide +kernel, rfl, by decide +kernel⟩ (fun hF => (jB (sSet 1 hF (ifexp_ (jI jR (slice_ (jA 0 hF) (pSome jG) (pSome jG)) (jZ (by decide)) rfl) jG jG)) (jB (sSet 2 hF eBool) (jB (sWhile (fun _ => 5000) (tBool (orCons (tOf (jA 2 hF)) (orCons (jI op_ne (slice_ (jA 0 hF) (pSome (jA 1 hF)) (pSome (kD jP (jA 1 hF) jG))) (jZ (by decide)) rfl) orNil))) (jB (sSet 2 hF eBool) (jB (sIf (jI op_ge (jA 1 hF) (eLen (jC (jA 0 hF) jK)) rfl) (jB (sRet jG) jF) jF) (jB (sSet 1 hF (kD jP (jA 1 hF) (ifexp_ (jI jR (slice_ (jA 0 hF) (pSome (jA 1 hF)) (pSome (kD jP (jA 1 hF) jG))) (jZ (by decide)) rfl) jG jG))) jF)))) (jB (sRet (ifexp_ (jI op_lt (jA 1 hF) (eLen (jC (jA 0 hF) jK)) rfl) (kD jP (jA 1 hF) jG) jG)) jF))))) (args1 fun _ => rfl) (kindLoc (by decide +kernel)) (by decide) rfl rfl (hw_b1 fun row σ h => ?_)
  split at h
  · rename_i hz
    rw [if_pos hz, ← szR_zero, setSize_at]
    refine kC (v := .int ((if atN row 1 = 94 then 2 else 1 : Nat))) (σ₁ := σ) ?_ (kC rfl ?_)
    · split
      · rename_i h; exact e_ifT (jJ (e_slice rfl rfl rfl) rfl (sb ((dec_cut1 row 1 rfl rfl (by decide)).trans (decide_eq_true h)))) rfl
      · rename_i h; exact e_ifF (jJ (e_slice rfl rfl rfl) rfl (sb ((dec_cut1 row 1 rfl rfl (by decide)).trans (decide_eq_false h)))) rfl
    · have hq : ∃ q, (if atN row 1 = 94 then 2 else 1) = q ∧ (q = 1 ∨ q = 2) ∧ szR σ 0 (if atN row 1 = 94 then (setEnd true (row.drop (1 + 1))).map (· + 2) else (setEnd true (row.drop 1)).map (· + 1)) = szR σ q (setEnd true (row.drop q)) := by
        split
        · exact ⟨2, rfl, .inr rfl, szR_map σ 0 2 _⟩
        · exact ⟨1, rfl, .inl rfl, szR_map σ 0 1 _⟩
      obtain ⟨q, e1, hq, e2⟩ := hq
      rw [e1, e2]
      generalize hs : szR σ q (setEnd true (row.drop q)) = s
      refine g_while (fun m ρ σ' => σ' = σ ∧ ∃ (p : Nat) (f : Bool), ρ = [.bytes row, .int p, .bool f] ∧ m + p = row.length + 3 ∧ szR σ p (setEnd f (row.drop p)) = s) (row.length + 3 - q) (w_start hq hz).1 ⟨rfl, q, true, rfl, (w_start hq hz).2, hs⟩ ?_
      rintro m ρ σ' ⟨rfl, p, f, rfl, hm, hs⟩ Q q
      refine lt_b (f || !decide (atN row p = 93)) (t_or2 (t_of rfl) (jJ (e_slice rfl rfl rfl) rfl rfl) (congrArg (fun b => f || !b) (dec_cut1 row p (i := p) (j := (p : Int) + 1) (k := 93) rfl rfl (by decide)))) (fun hb => ?_) (fun hb => ?_)
      · have hb' : ¬ (f = false ∧ atN row p = 93) := fun z => by rw [z.1, decide_eq_true z.2] at hb; cases hb
        refine kC rfl (g_le row.length p (jJ rfl (e_len rfl rfl) rfl) (fun hl => ?_) (fun hl => ?_))
        · rw [(jS (Nat.not_lt.mpr hl)).1] at hs
          exact jE (jQ rfl (q.ret _ _ _ (by rw [← hs]; cases f <;> rfl)))
        · have hl := Nat.not_le.mp hl
          rw [setEnd_at f hl, if_neg hb'] at hs
          obtain ⟨m, rfl⟩ := two_of (n := row.length + 1) hm (Nat.lt_succ_of_lt hl)
          by_cases h37 : atN row p = 37
          · rw [if_pos h37] at hs
            refine jL (kC (v := .int (p + 2 : Nat)) (e_bin rfl (e_ifT (jJ (e_slice rfl rfl rfl) rfl (sb ((dec_cut1 row p rfl rfl (by decide)).trans (decide_eq_true h37)))) rfl) rfl) (q.next m _ _ (Nat.lt_add_of_pos_right (by decide)) ⟨rfl, p + 2, false, rfl, two_1 hm, ?_⟩))
            by_cases h2 : p + 1 < row.length
            · rw [if_pos h2, szR_map] at hs; exact hs
            · rw [if_neg h2] at hs
              rw [(jS (p := p + 2) (fun z => h2 (Nat.lt_of_succ_lt z))).1]; exact hs
          · rw [if_neg h37, szR_map] at hs
            exact jL (kC (v := .int (p + 1 : Nat)) (e_bin rfl (e_ifF (jJ (e_slice rfl rfl rfl) rfl (sb ((dec_cut1 row p rfl rfl (by decide)).trans (decide_eq_false h37)))) rfl) rfl) (q.next (m + 1) _ _ (Nat.lt_succ_self _) ⟨rfl, p + 1, false, rfl, two_2 hm, hs⟩))
      · obtain ⟨rfl, h93⟩ : f = false ∧ atN row p = 93 := by
          cases f
          · exact ⟨rfl, of_decide_eq_true ((Bool.not_eq_false' _).mp hb)⟩
          · cases hb
        have hl := lt_of_at h93
        rw [setEnd_at false hl, if_pos ⟨rfl, h93⟩] at hs
        rw [← hs]
        exact jQ (e_ifT (jJ rfl (e_len rfl rfl) (ev_lt hl)) rfl) rfl
  · exact absurd rfl h
noncomputable def fSingleSize {Γ S : Type} (_ : Γ) : List V → S → Res (V × S) := b1 fun row σ => if row.length ≤ 4096 ∧ row ≠ [] then .ok (.int ((jU row).getD 0 : Nat), σ) else .stuck
theorem fSetSize_of {S : Type} {row : List UInt8} (h : row.length ≤ 4096) (σ : S) : fSetSize γ [.bytes row] σ = .ok (.int ((setSize (row.drop 1)).getD 0 : Nat), σ) := if_pos h
theorem fs_law_single_size {R : StRep (Addr × List V)} : FS PW w G R 279 (1 + 1) (fSingleSize ()) := by
  have M := mOk w.params
  refine fs_of () ["row"] 1 rfl rfl ⟨by decide +kernel, rfl, by decide +kernel⟩ (fun hF => (jB (sIf (jI jR (slice_ (jA 0 hF) pNone (pSome jG)) (jZ (by decide)) rfl) (jB (sRet (ifexp_ (jI op_gt (eLen (jC (jA 0 hF) jK)) jG rfl) jG jG)) jF) jF) (jB (sRet (ifexp_ (jI jR (slice_ (jA 0 hF) pNone (pSome jG)) (jZ (by decide)) rfl) (eC fs_law_set_size (jC (jA 0 hF) jK)) jG)) jF))) (args1 fun _ => rfl) (kindLoc (by decide +kernel)) (by decide) rfl rfl (hw_b1 fun row σ h => ?_)
  split at h
  · rename_i hz
    rw [if_pos hz]
    cases row with
    | nil => exact absurd rfl hz.2
    | cons c r =>
    rw [singleSize_cons]
    refine g_b (decide (c.toNat = 37)) (jJ (e_sliceT rfl rfl) rfl (sb (dec_cut0 (c :: r) (by decide)))) (fun h37 => ?_) (fun h37 => jL ?_)
    · rw [if_pos (of_decide_eq_true h37)]
      cases r with
      | nil => exact jE (jQ (e_ifF rfl rfl) rfl)
      | cons d r => exact jE (jQ (e_ifT (jJ (e_len rfl rfl) rfl (sbT (Int.ofNat_lt.mpr (Nat.succ_lt_succ (Nat.succ_pos r.length))))) rfl) rfl)
    · rw [if_neg (of_decide_eq_false h37)]
      by_cases h91 : c.toNat = 91
      · rw [if_pos h91]
        exact jQ (e_ifT (jJ (e_sliceT rfl rfl) rfl (sb ((dec_cut0 (c :: r) (by decide)).trans (decide_eq_true h91)))) (e_c (jD rfl jX) (fSetSize_of hz.1 σ))) rfl
      · rw [if_neg h91]
        exact jQ (e_ifF (jJ (e_sliceT rfl rfl) rfl (sb ((dec_cut0 (c :: r) (by decide)).trans (decide_eq_false h91)))) rfl) rfl
  · exact absurd rfl h
end
end
section
variable {w : World} {G : Gd (KF w.params)} {γ : GM}
set_option maxHeartbeats 4000000
theorem isalpha_one (c : Nat) (hc : c < 128) : Txt.isalpha ⟨#[c]⟩ = isAlphaI c :=
  (by decide +kernel : ∀ c : Fin 128, Txt.isalpha ⟨#[c.val]⟩ = isAlphaI (c.val : Int)) ⟨c, hc⟩
noncomputable def fitsOne (single : List UInt8) (o : Nat) : Bool :=
  if single = [37, 97] then isAlphaI o else decide (single = [46]) || decide (atN single (single.length - 1) = o)
noncomputable def fitB (body : List UInt8) (o : Nat) : Nat → Nat → Bool
  | 0, _ => false
  | n + 1, q => if q < body.length then
      if atN body q = 37 then fitsOne ((body.drop q).take 2) o || fitB body o n (q + 2)
      else if atN body (q + 1) = 45 ∧ q + 2 < body.length then (decide (atN body q ≤ o) && decide (o ≤ atN body (q + 2))) || fitB body o n (q + 3)
      else decide (atN body q = o) || fitB body o n (q + 1)
    else false
noncomputable def fitsSet (single : List UInt8) (o : Nat) : Bool :=
  let t := decide (atN single 1 = 94)
  let body := (single.drop (if t then 2 else 1)).take (single.length - 1 - (if t then 2 else 1))
  fitB body o (body.length + 1) 0 != t
noncomputable def fitsAll (single : List UInt8) (o : Nat) : Bool := if atN single 0 = 91 then fitsSet single o else fitsOne single o
noncomputable def fFits {Γ S : Type} (b : Bool) (_ : Γ) : List V → S → Res (V × S) := bi fun single o σ => if single.length ≤ 4096 ∧ single ≠ [] ∧ 0 ≤ o ∧ o < 128 ∧ (atN single 0 = 91 → b = true) then .ok (.bool (fitsAll single o.toNat), σ) else .stuck
section
variable {Γ Sy : Type} {γ : Γ} {R : StRep Sy} {ρ : List V} {σ σ₁ : Sy}
theorem e_chr {F : Γ → Dn Sy V} {o : Nat} (h : F γ ρ σ = .ok (.int o, σ)) (ho : o < 128) : eMeth0D (eChrD (jM F lNilD)) evIsalpha γ ρ σ = .ok (.bool (isAlphaI o), σ) := by
  have hch : evChr [.int (o : Int)] = some (.str ⟨#[o]⟩) := if_pos (by omega)
  show (((F γ ρ σ).bind _).bind _).bind _ = _
  rw [h]
  show ((jV (evChr [.int (o : Int)])).bind _).bind _ = _
  rw [hch]
  show Res.ok (V.bool (Txt.isalpha ⟨#[o]⟩), σ) = _
  rw [isalpha_one o ho]
theorem e_bint {F : Γ → Dn Sy V} {b : Bool} (h : F γ ρ σ = .ok (.bool b, σ)) : eInt1D (jM F lNilD) γ ρ σ = .ok (.int (if b then 1 else 0), σ) := by
  show ((F γ ρ σ).bind _).bind _ = _
  rw [h]; rfl
theorem fs_law_fitsG {n : Nat} {R : StRep Unit} {F0 : List V → Unit → Res (V × Unit)} (b : Bool) (fs0 : FS PW w G R 300 n F0) (h0 : b = true → ∀ (x : List UInt8) (o : Nat) σ, x.length ≤ 4096 → x ≠ [] → o < 128 → ¬ atN x 0 = 91 → F0 [.bytes x, .int o] σ = .ok (.bool (fitsOne x o), σ)) : FS PW w G R 300 (n + 1) (fFits b F0) := by
  have M := mOk w.params
  refine fs_of F0 ["single", "octet", "letter", "is_turned", "body", "at", "found"] 2 rfl rfl ⟨by decide +kernel, rfl, by decide +kernel⟩ (fun hF => (jB (sIf (tBool (orCons (jI jR (jA 0 hF) (jZ (by decide)) rfl) (orCons (jI op_ne (slice_ (jA 0 hF) pNone (pSome jG)) (jZ (by decide)) rfl) orNil))) (jB (sSet 2 hF (sub_ (jA 0 hF) (kD op_sub (eLen (jC (jA 0 hF) jK)) jG))) (jB (sIf (jI jR (jA 0 hF) (jZ (by decide)) rfl) (jB (sRet (eAnd (eMeth0 (eChr (jC (jA 1 hF) jK)) (m_isalpha _)) (cmp_ op_lt (jA 1 hF) jG rfl))) jF) jF) (jB (sRet (eOr (cmp_ jR (jA 0 hF) (jZ (by decide)) rfl) (cmp_ jR (jA 2 hF) (jA 1 hF) rfl))) jF))) jF) (jB (sSet 3 hF (cmp_ jR (slice_ (jA 0 hF) (pSome jG) (pSome jG)) (jZ (by decide)) rfl)) (jB (sSetW [("body", 4), ("at", 5), ("found", 6)] hF (tuple_ (jC (slice_ (jA 0 hF) (pSome (kD jP jG (eInt1 (jC (jA 3 hF) jK)))) (pSome (kD op_sub (eLen (jC (jA 0 hF) jK)) jG))) (jC jG (jC eBool jK))))) (jB (sWhile (fun F0 => 5000) (jI op_lt (jA 5 hF) (eLen (jC (jA 4 hF) jK)) rfl) (jB (sIf (jI jR (slice_ (jA 4 hF) (pSome (jA 5 hF)) (pSome (kD jP (jA 5 hF) jG))) (jZ (by decide)) rfl) (jB (sSet 6 hF (eOr (jA 6 hF) (eC (γ := F0) (F := fun g => g) fs0 (jC (slice_ (jA 4 hF) (pSome (jA 5 hF)) (pSome (kD jP (jA 5 hF) jG))) (jC (jA 1 hF) jK))))) (jB (sSet 5 hF (kD jP (jA 5 hF) jG)) jF)) (jB (sIf (tBool (andCons (jI jR (slice_ (jA 4 hF) (pSome (kD jP (jA 5 hF) jG)) (pSome (kD jP (jA 5 hF) jG))) (jZ (by decide)) rfl) (andCons (jI op_lt (kD jP (jA 5 hF) jG) (eLen (jC (jA 4 hF) jK)) rfl) andNil))) (jB (sSet 6 hF (eOr (jA 6 hF) (chain_ op_le op_le (sub_ (jA 4 hF) (jA 5 hF)) (jA 1 hF) (sub_ (jA 4 hF) (kD jP (jA 5 hF) jG)) rfl))) (jB (sSet 5 hF (kD jP (jA 5 hF) jG)) jF)) (jB (sSet 6 hF (eOr (jA 6 hF) (cmp_ jR (sub_ (jA 4 hF) (jA 5 hF)) (jA 1 hF) rfl))) (jB (sSet 5 hF (kD jP (jA 5 hF) jG)) jF))) jF)) jF)) (jB (sRet (cmp_ op_ne (jA 6 hF) (jA 3 hF) rfl)) jF)))))) (args2 fun _ _ => rfl) (kindLoc (by decide +kernel)) (by decide) rfl rfl (hw_bi fun single o σ h => ?_)
  split at h
  · rename_i hz
    rw [if_pos hz]
    obtain ⟨hl, hne, ho0, ho1, hb⟩ := hz
    obtain ⟨o, rfl⟩ := Int.eq_ofNat_of_zero_le ho0
    have ho : o < 128 := Int.ofNat_lt.mp ho1
    show Ev (.ok (.bool (fitsAll single o), σ)) _
    cases single with
    | nil => exact absurd rfl hne
    | cons c r =>
    by_cases h91 : atN (c :: r) 0 = 91
    · rw [fitsAll, if_pos h91, fitsSet]
      have h46 : ¬ c :: r = [46] := fun e => by cases e; cases h91
      refine g_f (t_or2 (jJ rfl rfl (sbF h46)) (jJ (e_sliceT rfl rfl) rfl (sb (congrArg (fun b => !b) ((dec_cut0 (c :: r) (by decide)).trans (decide_eq_true h91))))) rfl) (jL (kC (e_cmp (e_slice rfl rfl rfl) rfl (sb (dec_cut1 (c :: r) 1 rfl rfl (by decide)))) ?_))
      generalize ht : decide (atN (c :: r) 1 = (94 : UInt8).toNat) = t
      have ht : decide (atN (c :: r) 1 = 94) = t := ht
      rw [ht]
      have hbody : cut (c :: r) (some (1 + (if t then 1 else 0))) (some (((c :: r).length : Int) - 1)) = ((c :: r).drop (if t then 2 else 1)).take ((c :: r).length - 1 - (if t then 2 else 1)) := cutN _ _ _ (by cases t <;> rfl) (pred_cast r.length)
      refine g_set3 (x := .bytes (((c :: r).drop (if t then 2 else 1)).take ((c :: r).length - 1 - (if t then 2 else 1)))) (by rw [← hbody]; exact e_slice rfl (e_bin rfl (e_bint rfl) rfl) (e_bin (e_len rfl rfl) rfl rfl)) rfl rfl ?_
      have hbl : (((c :: r).drop (if t then 2 else 1)).take ((c :: r).length - 1 - (if t then 2 else 1))).length ≤ 4096 := Nat.le_trans (List.length_take_le _ _) (Nat.le_trans (Nat.sub_le _ _) (Nat.le_trans (Nat.sub_le _ _) hl))
      generalize ((c :: r).drop (if t then 2 else 1)).take ((c :: r).length - 1 - (if t then 2 else 1)) = body at hbl ⊢
      show Ev (.ok (.bool (fitB body o (body.length + 1) 0 != t), σ)) _
      generalize hX : fitB body o (body.length + 1) 0 = X
      refine g_while (fun m ρ σ' => σ' = σ ∧ ∃ (q : Nat) (f : Bool) (j : V), ρ = [.bytes (c :: r), .int o, j, .bool t, .bytes body, .int q, .bool f] ∧ body.length < q + m ∧ (f || fitB body o m q) = X) (body.length + 1) (by show body.length + 1 < 5000; omega) ⟨rfl, 0, false, _, rfl, by omega, hX⟩ ?_
      rintro m ρ σ' ⟨rfl, q, f, j, rfl, hm, hX⟩ Q qq
      refine lt_lt q body.length (jJ rfl (e_len rfl rfl) rfl) (fun hq => ?_) (fun hq => ?_)
      · cases m with
        | zero => exact absurd hm (Nat.not_lt.mpr (Nat.le_of_lt hq))
        | succ m =>
        rw [show fitB body o (m + 1) q = _ from if_pos hq] at hX
        have go : ∀ k (f : Bool), (f || fitB body o m (q + (k + 1))) = X → Q (.ok ((.next, [.bytes (c :: r), .int o, j, .bool t, .bytes body, .int (q + (k + 1) : Nat), .bool f]), σ')) := fun k f e => qq.next m _ _ (Nat.lt_succ_self m) ⟨rfl, _, f, j, rfl, Nat.lt_of_lt_of_le hm (by omega), e⟩
        refine g_b (decide (atN body q = 37)) (jJ (e_slice rfl rfl rfl) rfl (sb (dec_cut1 body q rfl rfl (by decide)))) (fun h37 => ?_) (fun h37 => ?_)
        · have h37 := of_decide_eq_true h37
          rw [if_pos h37, ← Bool.or_assoc] at hX
          have ec : (body.drop q).take 2 = cut body (some (q : Int)) (some ((q : Int) + 2)) := ((cutN body q (q + 2) rfl rfl).trans (by rw [Nat.add_sub_cancel_left])).symm
          have hx : F0 [.bytes ((body.drop q).take 2), .int o] σ' = .ok (.bool (fitsOne ((body.drop q).take 2) o), σ') := by
            obtain ⟨d, r', hd, hat, _⟩ := jT hq
            refine h0 (hb h91) _ o σ' (Nat.le_trans (List.length_take_le _ _) (by decide)) ?_ ho ?_
            · rw [hd]; exact fun e => nomatch e
            · rw [hd]
              show ¬ d.toNat = 91
              rw [← hat, h37]; decide
          rw [ec] at hx hX
          exact jE (kC (e_or rfl (e_c (jD (e_slice rfl rfl rfl) (jD rfl jX)) hx)) (jE (kC (v := .int (q + 2 : Nat)) rfl (jL (go 1 _ hX)))))
        · rw [if_neg (of_decide_eq_false h37)] at hX
          refine jE (g_if (atN body (q + 1) = 45 ∧ q + 2 < body.length) (t_and2 (jJ (e_slice rfl rfl rfl) rfl (sb (dec_cut1 body (q + 1) rfl rfl (by decide)))) (jJ rfl (e_len rfl rfl) rfl) (by rw [Bool.decide_and]; exact congrArg (_ && ·) (dec_cast_lt (q + 2) _))) (fun h45 => ?_) (fun h45 => ?_))
          · rw [if_pos h45, ← Bool.or_assoc, ← dec_cast_le, ← dec_cast_le] at hX
            exact jE (kC (e_or rfl (e_chain (e_sub rfl rfl (evItem_bytes hq)) rfl (e_sub rfl rfl (evItem_bytes (p := q + 2) h45.2)) rfl rfl)) (jE (kC (v := .int (q + 3 : Nat)) rfl (jL (jL (go 2 _ hX))))))
          · rw [if_neg h45, ← Bool.or_assoc, ← dec_cast] at hX
            exact jE (kC (e_or rfl (e_cmp (e_sub rfl rfl (evItem_bytes hq)) rfl rfl)) (jE (kC (v := .int (q + 1 : Nat)) rfl (jL (jL (go 0 _ hX))))))
      · have e : fitB body o m q = false := by
          cases m with
          | zero => rfl
          | succ m => exact if_neg hq
        rw [e, Bool.or_false] at hX
        rw [← hX]
        exact jQ rfl rfl
    · rw [fitsAll, if_neg h91, fitsOne]
      refine g_t (t_or2 (jJ rfl rfl rfl) (jJ (e_sliceT rfl rfl) rfl (sb (congrArg (fun b => !b) ((dec_cut0 (c :: r) (by decide)).trans (decide_eq_false h91))))) (Bool.or_true _)) (jE (kC (v := .int (atN (c :: r) r.length)) (e_sub rfl (e_bin (e_len rfl rfl) rfl (si (pred_cast r.length))) (evItem_bytes (pat := c :: r) (Nat.lt_succ_self _))) (jE (g_if (c :: r = [37, 97]) (jJ rfl rfl rfl) (fun h => ?_) (fun h => ?_)))))
      · rw [if_pos h]
        refine jE (jQ (e_and (e_chr rfl ho) (e_cmp rfl rfl (sbT ho1))) ?_)
        rw [Bool.and_true]; rfl
      · rw [if_neg h, ← dec_cast]
        exact jL (jE (jQ (e_or (e_cmp rfl rfl rfl) (e_cmp rfl rfl rfl)) rfl))
  · exact absurd rfl h
theorem fs_stuck {R : StRep Unit} {fa : Addr} {n : Nat} : FS PW w G R fa n (stuckD ()) := fun _ _ _ _ _ _ _ _ _ _ _ _ _ hS => absurd rfl hS
theorem fs_law_fits {R : StRep Unit} : FS PW w G R 300 2 (fFits true ()) :=
  fs_law_fitsG true (fs_law_fitsG false fs_stuck (fun e => nomatch e)) fun _ x o σ h1 h2 h3 h4 => (if_pos ⟨h1, h2, Int.natCast_nonneg o, Int.ofNat_lt.mpr h3, fun e => absurd e h4⟩ : fFits false () [.bytes x, .int o] σ = _).trans (by show Res.ok (V.bool (fitsAll x o), σ) = _; rw [fitsAll, if_neg h4])
end
end
section
variable {w : World} {G : Gd (KF w.params)} {γ : GM}
set_option maxHeartbeats 4000000
section
variable {Γ Sy : Type} {γ : Γ} {R : StRep Sy}
noncomputable def runL (single text : List UInt8) (at_ : Nat) : Nat := ((text.drop at_).takeWhile fun c => fitsAll single c.toNat).length
theorem runL_step {single text : List UInt8} {a : Nat} (h : a < text.length) : runL single text a = if fitsAll single (atN text a) then runL single text (a + 1) + 1 else 0 := by
  obtain ⟨c, r, hd, hat, hr⟩ := jT (pat := text) h
  rw [runL, runL, hd, List.takeWhile_cons, hat, hr]
  split <;> rfl
theorem runL_end {single text : List UInt8} {a : Nat} (h : ¬ a < text.length) : runL single text a = 0 := by
  rw [runL, (jS h).1]; rfl
theorem runL_le {single text : List UInt8} {a : Nat} : runL single text a ≤ text.length - a := by
  rw [runL]; refine Nat.le_trans (List.takeWhile_sublist _).length_le ?_; rw [List.length_drop]; exact Nat.le_refl _
noncomputable abbrev smallB (l : List UInt8) : Prop := ∀ c ∈ l, c.toNat < 128
theorem smallB.at {l : List UInt8} (h : smallB l) (i : Nat) : atN l i < 128 := by
  by_cases hi : i < l.length
  · obtain ⟨c, r, hd, hat, hr⟩ := jT (pat := l) hi
    rw [hat]; exact h c (List.mem_of_mem_drop (i := i) (by rw [hd]; exact List.mem_cons_self ..))
  · rw [(jS hi).2]; decide
theorem fFits_of {S : Type} {single : List UInt8} {o : Nat} (h1 : single.length ≤ 4096) (h2 : single ≠ []) (h3 : o < 128) (σ : S) : fFits true γ [.bytes single, .int o] σ = .ok (.bool (fitsAll single o), σ) :=
  if_pos ⟨h1, h2, Int.natCast_nonneg o, Int.ofNat_lt.mpr h3, fun _ => rfl⟩
noncomputable def fRun {Γ S : Type} (_ : Γ) : List V → S → Res (V × S) := bbi fun single text a σ => if single.length ≤ 4096 ∧ single ≠ [] ∧ smallB text ∧ text.length ≤ 4096 ∧ 0 ≤ a ∧ a.toNat ≤ text.length then .ok (.int (runL single text a.toNat), σ) else .stuck
theorem fs_law_run {R : StRep Unit} : FS PW w G R 307 (2 + 1) (fRun ()) := by
  have M := mOk w.params
  refine fs_of () ["single", "text", "at", "many"] 3 rfl rfl ⟨by decide +kernel, rfl, by decide +kernel⟩ (fun hF => (jB (sSet 3 hF jG) (jB (sWhile (fun _ => 5000) (tBool (andCons (jI op_lt (kD jP (jA 2 hF) (jA 3 hF)) (eLen (jC (jA 1 hF) jK)) rfl) (andCons (tOf (eC fs_law_fits (jC (jA 0 hF) (jC (sub_ (jA 1 hF) (kD jP (jA 2 hF) (jA 3 hF))) jK)))) andNil))) (jB (sSet 3 hF (kD jP (jA 3 hF) jG)) jF)) (jB (sRet (jA 3 hF)) jF)))) (args3 fun _ _ _ => rfl) (kindLoc (by decide +kernel)) (by decide) rfl rfl (hw_bbi fun single text a σ h => ?_)
  split at h
  · rename_i hz
    rw [if_pos hz]
    obtain ⟨h1, h2, h3, h4, h5, h6⟩ := hz
    obtain ⟨a, rfl⟩ := Int.eq_ofNat_of_zero_le h5
    have h6 : a ≤ text.length := h6
    show Ev (.ok (.int (runL single text a), σ)) _
    generalize hT : runL single text a = T
    refine kC rfl (g_while (fun m ρ σ' => σ' = σ ∧ ∃ i : Nat, ρ = [.bytes single, .bytes text, .int a, .int i] ∧ m + (a + i) = text.length ∧ runL single text (a + i) + i = T) (text.length - a) (by show text.length - a < 5000; omega) ⟨rfl, 0, rfl, Nat.sub_add_cancel h6, hT⟩ ?_)
    rintro m ρ σ' ⟨rfl, i, rfl, hm, hT⟩ Q q
    by_cases hl : a + i < text.length
    · rw [runL_step hl] at hT
      refine lt_b (fitsAll single (atN text (a + i))) (t_and2 (jJ (e_bin rfl rfl rfl) (e_len rfl rfl) (ev_lt hl)) (t_of (e_c (jD rfl (jD (e_sub rfl (e_bin rfl rfl rfl) (evItem_bytes hl)) jX)) (fFits_of h1 h2 (h3.at _) σ'))) rfl) (fun hb => ?_) (fun hb => ?_)
      · cases m with
        | zero => exact absurd hm (by rw [Nat.zero_add]; exact Nat.ne_of_lt hl)
        | succ m =>
        rw [if_pos hb, Nat.add_right_comm, Nat.add_assoc] at hT
        exact kC (v := .int (i + 1 : Nat)) rfl (q.next m _ _ (Nat.lt_succ_self m) ⟨rfl, i + 1, rfl, by rw [← hm]; exact (Nat.succ_add_eq_add_succ m (a + i)).symm, hT⟩)
      · rw [if_neg (by rw [hb]; decide), Nat.zero_add] at hT
        rw [← hT]; exact jQ rfl rfl
    · rw [runL_end hl, Nat.zero_add] at hT
      rw [← hT]
      exact lt_false (t_andf (jJ (e_bin rfl rfl rfl) (e_len rfl rfl) (ev_nlt hl))) (jQ rfl rfl)
  · exact absurd rfl h
end
end
section
variable {w : World} {G : Gd (KF w.params)} {γ : GM}
set_option maxHeartbeats 4000000
inductive It where
  | open_ | place | close | end_ | bad | bal (x y : Nat) | front (st : List UInt8) | again (n : Int) | many (one m : List UInt8) | one (s : List UInt8)
noncomputable def kstr (i : Nat) : Str := ([Str.ofString "open", Str.ofString "place", Str.ofString "close", Str.ofString "end", Str.ofString "bad", Str.ofString "balance", Str.ofString "frontier", Str.ofString "again", Str.ofString "many", Str.ofString "one"] : List Str).getD i (Str.ofString "")
noncomputable def It.k : It → Nat
  | .open_ => 0
  | .place => 1
  | .close => 2
  | .end_ => 3
  | .bad => 4
  | .bal _ _ => 5
  | .front _ => 6
  | .again _ => 7
  | .many _ _ => 8
  | .one _ => 9
noncomputable def It.args : It → List V
  | .bal x y => [.int x, .int y]
  | .front s => [.bytes s]
  | .again n => [.int n]
  | .many s m => [.bytes s, .bytes m]
  | .one s => [.bytes s]
  | _ => []
noncomputable def It.v (it : It) : V := .tup (.str (kstr it.k) :: it.args)
noncomputable def It.un (k : Nat) (l : List V) : It := match k with
  | 0 => .open_
  | 1 => .place
  | 2 => .close
  | 3 => .end_
  | 4 => .bad
  | 5 => .bal ((l.getD 0 .none).int?.getD 0).toNat ((l.getD 1 .none).int?.getD 0).toNat
  | 6 => .front ((l.getD 0 .none).bytes?.getD [])
  | 7 => .again ((l.getD 0 .none).int?.getD 0)
  | 8 => .many ((l.getD 0 .none).bytes?.getD []) ((l.getD 1 .none).bytes?.getD [])
  | _ => .one ((l.getD 0 .none).bytes?.getD [])
theorem It.un_eq (a : It) : It.un a.k a.args = a := by cases a <;> rfl
theorem It.k_lt (a : It) : a.k < 10 := by cases a <;> exact Nat.le_of_ble_eq_true rfl
theorem kstr_eq : ∀ i < 10, ∀ j < 10, (kstr i == kstr j) = decide (i = j) := by decide +kernel
theorem It.v_inj {a b : It} (h : a.v = b.v) : a = b := by
  have h1 := List.cons.inj (V.tup.inj h)
  have h2 := kstr_eq _ a.k_lt _ b.k_lt
  rw [V.str.inj h1.1, beq_self_eq_true] at h2
  rw [← a.un_eq, ← b.un_eq, of_decide_eq_true h2.symm, h1.2]
theorem kT (it : It) (j : Nat) (hj : j < 10) : evEq (.str (kstr it.k)) (.str (kstr j)) = some (.bool (decide (it.k = j))) := sb (kstr_eq _ it.k_lt j hj)
noncomputable def isDigs (b : List UInt8) : Bool := Builtin.Bytes.allOf Builtin.Bytes.isDigit b
noncomputable def isMany (m : List UInt8) : Bool := [[42], [43], [45], [63]].any fun c => decide (c = m)
theorem isMany_iff {m : List UInt8} : isMany m = true ↔ m = [42] ∨ m = [43] ∨ m = [45] ∨ m = [63] := by
  rw [isMany, List.any_cons, List.any_cons, List.any_cons, List.any_cons, List.any_nil, Bool.or_false, Bool.or_eq_true, Bool.or_eq_true, Bool.or_eq_true, decide_eq_true_iff, decide_eq_true_iff, decide_eq_true_iff, decide_eq_true_iff, eq_comm, @eq_comm _ [43], @eq_comm _ [45], @eq_comm _ [63]]
noncomputable def secB (row : List UInt8) : List UInt8 := (row.drop 1).take 1
noncomputable def frontLen (row : List UInt8) : Nat := if (row.drop 2).take 1 = [91] then (setSize (row.drop 3)).getD 0 else 0
noncomputable def plainItem (row : List UInt8) (size : Nat) : It × Nat :=
  if size = 0 then (.bad, row.length)
  else if isMany ((row.drop size).take 1) then (.many (row.take size) ((row.drop size).take 1), size + 1) else (.one (row.take size), size)
noncomputable def itemD (row : List UInt8) : Option (It × Nat) :=
  if atN row 0 = 40 then some (if secB row = [41] then (.place, 2) else (.open_, 1))
  else if atN row 0 = 41 then some (.close, 1)
  else if row = [36] then some (.end_, 1)
  else if atN row 0 = 37 ∧ secB row = [98] then some (if 3 < row.length then (.bal (atN row 2) (atN row 3), 4) else (.bad, row.length))
  else if atN row 0 = 37 ∧ secB row = [102] then some (if 0 < frontLen row then (.front ((row.drop 2).take (frontLen row)), 2 + frontLen row) else (.bad, row.length))
  else if atN row 0 = 37 ∧ isDigs (secB row) = true then (if secB row = [49] then some (.again 0, 2) else none)
  else some (plainItem row ((jU row).getD 0))
noncomputable def It.good : It → Bool
  | .one s => s ≠ [] && decide (s.length ≤ 4096)
  | .front s => s ≠ [] && decide (s.length ≤ 4096)
  | .many s m => s ≠ [] && decide (s.length ≤ 4096) && isMany m
  | _ => true
noncomputable def itemsF : Nat → List UInt8 → Option (List It)
  | 0, _ => none
  | _ + 1, [] => some []
  | n + 1, c :: r => (itemD (c :: r)).bind fun p => (itemsF n ((c :: r).drop p.2)).map (p.1 :: ·)
noncomputable abbrev Held := List (Nat × Option Int)
noncomputable def optI (o : Option Int) : V := o.elim .none .int
noncomputable def heldOne (p : Nat × Option Int) : V := .tup [.int p.1, optI p.2]
noncomputable def heldV (h : Held) : V := .lst (h.map heldOne)
noncomputable def rangeN (a k : Nat) : List Nat := (List.range k).map (a + ·)
noncomputable def endsD (text : List UInt8) (it : It) (at_ : Nat) : List Nat :=
  match it with
  | .one s => if 0 < runL s text at_ then [at_ + 1] else []
  | .many s m => if m = [45] then rangeN at_ (runL s text at_ + 1) else if m = [42] then (rangeN at_ (runL s text at_ + 1)).reverse else if m = [43] then ((rangeN at_ (runL s text at_ + 1)).drop 1).reverse else ((rangeN at_ (runL s text at_ + 1)).take 2).reverse
  | .end_ => if at_ = text.length then [at_] else []
  | .front s => if fitsAll s (atN text at_) && !fitsAll s (aheadN text at_) then [at_] else []
  | .bal x y => if at_ = text.length ∨ atN text at_ ≠ x then [] else (balL x y (text.drop (at_ + 1)) 1 (at_ + 1)).elim [] fun e => [e]
  | _ => []
noncomputable def tryD {α : Type} (f : Nat → Res (Option α)) : List Nat → Res (Option α)
  | [] => .ok none
  | e :: es => (f e).bind fun o => o.elim (tryD f es) fun x => .ok (some x)
noncomputable def waitL (h : Held) : List Nat := (List.range h.length).filter fun i => (h.getD i (0, none)).2.isNone
noncomputable def againW (text : List UInt8) (go : Nat → Res (Option (Nat × Held))) (at_ b : Nat) (e : Int) : Res (Option (Nat × Held)) :=
  if 0 ≤ e then (if 0 ≤ at_ + e - b then (if cut text (some at_) (some (at_ + e - b)) = cut text (some b) (some e) then go (at_ + e - b).toNat else .ok none) else .stuck) else .ok none
noncomputable def wayD (text : List UInt8) : List It → Nat → Held → Res (Option (Nat × Held))
  | [], at_, held => .ok (some (at_, held))
  | it :: rest, at_, held => if it.good = true ∧ at_ ≤ text.length ∧ held.length ≤ 100 then (match it with
    | .bad => .err
    | .open_ => wayD text rest at_ (held ++ [(at_, none)])
    | .place => wayD text rest at_ (held ++ [(at_, some (-1))])
    | .close => (waitL held).getLast?.elim .err fun i => wayD text rest at_ (held.set i ((held.getD i (0, none)).1, some at_))
    | .again n => if 0 ≤ n ∧ n < held.length then (held.getD n.toNat (0, none)).2.elim .err fun e => againW text (fun z => wayD text rest z held) at_ (held.getD n.toNat (0, none)).1 e
      else .err
    | it => tryD (fun e => wayD text rest e held) (endsD text it at_)) else .stuck
end
section
variable {w : World} {G : Gd (KF w.params)} {γ : GM}
set_option maxHeartbeats 4000000
section
variable {Γ Sy : Type} {γ : Γ} {R : StRep Sy}
noncomputable def itemR {S : Type} (σ : S) (o : Option (It × Nat)) : Res (V × S) := o.elim .stuck fun p => .ok (.tup [p.1.v, .int p.2], σ)
noncomputable def fItem {Γ S : Type} (_ : Γ) : List V → S → Res (V × S) := b1 fun row σ => if row.length ≤ 4091 ∧ row ≠ [] then itemR σ (itemD row) else .stuck
theorem cutFrom {α : Type} (l : List α) (n : Nat) {i : Int} (hi : i = n) : cut l (some i) none = l.drop n := by
  subst hi
  simp only [cut, Option.elim, clipAt_nat]
  by_cases h : n ≤ l.length
  · rw [Nat.min_eq_left h, List.take_of_length_le (by simp)]
  · rw [Nat.min_eq_right (by omega), List.drop_eq_nil_of_le (Nat.le_refl _), List.drop_eq_nil_of_le (by omega)]; simp
theorem fSingleSize_of {S : Type} {row : List UInt8} (h : row.length ≤ 4096) (h2 : row ≠ []) (σ : S) : fSingleSize γ [.bytes row] σ = .ok (.int ((jU row).getD 0 : Nat), σ) := if_pos ⟨h, h2⟩
theorem cut2 (row : List UInt8) (a k : Nat) : cut row (some (a : Int)) (some ((a + k : Nat) : Int)) = (row.drop a).take k := by
  rw [cutN row a (a + k) rfl rfl, Nat.add_sub_cancel_left]
theorem fs_law_item {R : StRep (Addr × List V)} : FS PW w G R 286 (2 + 1) (fItem ()) := by
  have M := mOk w.params
  refine fs_of () ["row", "second", "size", "many"] 1 rfl rfl ⟨by decide +kernel, rfl, by decide +kernel⟩ (fun hF => (jB (sSet 1 hF (slice_ (jA 0 hF) (pSome jG) (pSome jG))) (jB (sIf (jI jR (slice_ (jA 0 hF) pNone (pSome jG)) (jZ (by decide)) rfl) (jB (sRet (ifexp_ (jI jR (jA 1 hF) (jZ (by decide)) rfl) (tuple_ (jC (tuple_ (jC eStr jK)) (jC jG jK))) (tuple_ (jC (tuple_ (jC eStr jK)) (jC jG jK))))) jF) jF) (jB (sIf (tBool (orCons (jI jR (slice_ (jA 0 hF) pNone (pSome jG)) (jZ (by decide)) rfl) (orCons (jI jR (jA 0 hF) (jZ (by decide)) rfl) orNil))) (jB (sRet (tuple_ (jC (ifexp_ (jI jR (slice_ (jA 0 hF) pNone (pSome jG)) (jZ (by decide)) rfl) (tuple_ (jC eStr jK)) (tuple_ (jC eStr jK))) (jC jG jK)))) jF) jF) (jB (sIf (tBool (andCons (jI jR (slice_ (jA 0 hF) pNone (pSome jG)) (jZ (by decide)) rfl) (andCons (jI jR (jA 1 hF) (jZ (by decide)) rfl) andNil))) (jB (sRet (ifexp_ (jI op_gt (eLen (jC (jA 0 hF) jK)) jG rfl) (tuple_ (jC (tuple_ (jC eStr (jC (sub_ (jA 0 hF) jG) (jC (sub_ (jA 0 hF) jG) jK)))) (jC jG jK))) (tuple_ (jC (tuple_ (jC eStr jK)) (jC (eLen (jC (jA 0 hF) jK)) jK))))) jF) jF) (jB (sIf (tBool (andCons (jI jR (slice_ (jA 0 hF) pNone (pSome jG)) (jZ (by decide)) rfl) (andCons (jI jR (jA 1 hF) (jZ (by decide)) rfl) andNil))) (jB (sSet 2 hF (ifexp_ (jI jR (slice_ (jA 0 hF) (pSome jG) (pSome jG)) (jZ (by decide)) rfl) (eC fs_law_set_size (jC (slice_ (jA 0 hF) (pSome jG) pNone) jK)) jG)) (jB (sRet (ifexp_ (jI op_gt (jA 2 hF) jG rfl) (tuple_ (jC (tuple_ (jC eStr (jC (slice_ (jA 0 hF) (pSome jG) (pSome (kD jP jG (jA 2 hF)))) jK))) (jC (kD jP jG (jA 2 hF)) jK))) (tuple_ (jC (tuple_ (jC eStr jK)) (jC (eLen (jC (jA 0 hF) jK)) jK))))) jF)) jF) (jB (sIf (tBool (andCons (jI jR (slice_ (jA 0 hF) pNone (pSome jG)) (jZ (by decide)) rfl) (andCons (tOf (eMeth0 (jA 1 hF) (m_isdigit _))) andNil))) (jB (sRet (tuple_ (jC (tuple_ (jC eStr (jC (kD op_sub (eInt2 (jC (jA 1 hF) jK)) jG) jK))) (jC jG jK)))) jF) jF) (jB (sSet 2 hF (eC fs_law_single_size (jC (jA 0 hF) jK))) (jB (sIf (jI jR (jA 2 hF) jG rfl) (jB (sRet (tuple_ (jC (tuple_ (jC eStr jK)) (jC (eLen (jC (jA 0 hF) jK)) jK)))) jF) jF) (jB (sSet 3 hF (slice_ (jA 0 hF) (pSome (jA 2 hF)) (pSome (kD jP (jA 2 hF) jG)))) (jB (sRet (ifexp_ (jI op_inT (jA 3 hF) (tuple_ (jC (jZ (by decide)) (jC (jZ (by decide)) (jC (jZ (by decide)) (jC (jZ (by decide)) jK))))) rfl) (tuple_ (jC (tuple_ (jC eStr (jC (slice_ (jA 0 hF) pNone (pSome (jA 2 hF))) (jC (jA 3 hF) jK)))) (jC (kD jP (jA 2 hF) jG) jK))) (tuple_ (jC (tuple_ (jC eStr (jC (slice_ (jA 0 hF) pNone (pSome (jA 2 hF))) jK))) (jC (jA 2 hF) jK))))) jF))))))))))) (args1 fun _ => rfl) (kindLoc (by decide +kernel)) (by decide) rfl rfl (hw_b1 fun row σ h => ?_)
  split at h
  · rename_i hz
    rw [if_pos hz]
    obtain ⟨hl, hne⟩ := hz
    rw [itemD] at h ⊢
    refine kC (v := .bytes (secB row)) (by rw [secB, ← cut2 row 1 1]; exact e_slice rfl rfl rfl) (g_if (atN row 0 = 40) (jJ (e_sliceT rfl rfl) rfl (sb (dec_cut0 row (by decide)))) (fun h40 => ?_) (fun h40 => jL (g_if (atN row 0 = 41 ∨ row = [36]) (t_or2 (jJ (e_sliceT rfl rfl) rfl (sb (dec_cut0 row (by decide)))) (jJ rfl rfl rfl) (Bool.decide_or _ _).symm) (fun h41 => ?_) (fun h41 => jL (g_if (atN row 0 = 37 ∧ secB row = [98]) (t_and2 (jJ (e_sliceT rfl rfl) rfl (sb (dec_cut0 row (by decide)))) (jJ rfl rfl rfl) (Bool.decide_and _ _).symm) (fun h98 => ?_) (fun h98 => jL (g_if (atN row 0 = 37 ∧ secB row = [102]) (t_and2 (jJ (e_sliceT rfl rfl) rfl (sb (dec_cut0 row (by decide)))) (jJ rfl rfl rfl) (Bool.decide_and _ _).symm) (fun h102 => ?_) (fun h102 => jL (g_if (atN row 0 = 37 ∧ isDigs (secB row) = true) (t_and2 (jJ (e_sliceT rfl rfl) rfl (sb (dec_cut0 row (by decide)))) (t_of (b := isDigs (secB row)) rfl) ((Bool.decide_and _ _).trans (congrArg (_ && ·) Bool.decide_eq_true)).symm) (fun hd => ?_) (fun hd => jL ?_))))))))))
    · rw [if_pos h40]
      by_cases h : secB row = [41]
      · rw [if_pos h]; exact jE (jQ (e_ifT (jJ rfl rfl (sbT h)) rfl) rfl)
      · rw [if_neg h]; exact jE (jQ (e_ifF (jJ rfl rfl (sbF h)) rfl) rfl)
    · rw [if_neg h40]
      by_cases h : atN row 0 = 41
      · rw [if_pos h]; exact jE (jQ (e_tup2 (e_ifT (jJ (e_sliceT rfl rfl) rfl (sb ((dec_cut0 row (by decide)).trans (decide_eq_true h)))) rfl) rfl) rfl)
      · rw [if_neg h, if_pos (h41.resolve_left h)]; exact jE (jQ (e_tup2 (e_ifF (jJ (e_sliceT rfl rfl) rfl (sb ((dec_cut0 row (by decide)).trans (decide_eq_false h)))) rfl) rfl) rfl)
    · rw [if_neg h40, if_neg fun z => h41 (.inl z), if_neg fun z => h41 (.inr z), if_pos h98]
      by_cases h : 3 < row.length
      · rw [if_pos h]; exact jE (jQ (e_ifT (jJ (e_len rfl rfl) rfl (sbT (Int.ofNat_lt.mpr h))) (e_tup2 (e_tup3 rfl (e_sub rfl rfl (evItem_bytes (p := 2) (Nat.lt_of_succ_lt h))) (e_sub rfl rfl (evItem_bytes (p := 3) h))) rfl)) rfl)
      · rw [if_neg h]; exact jE (jQ (e_ifF (jJ (e_len rfl rfl) rfl (sbF fun z => h (Int.ofNat_lt.mp z))) (e_tup2 rfl (e_len rfl rfl))) rfl)
    · rw [if_neg h40, if_neg fun z => h41 (.inl z), if_neg fun z => h41 (.inr z), if_neg h98, if_pos h102]
      refine jE (kC (v := .int (frontLen row)) (σ₁ := σ) ?_ (jE ?_))
      · rw [frontLen]
        by_cases h : (row.drop 2).take 1 = [91]
        · rw [if_pos h]
          refine e_ifT (jJ (e_slice rfl rfl rfl) rfl (sbT (by rw [← h]; exact cut2 row 2 1))) (e_c (jD (e_sliceD rfl rfl) jX) ?_)
          rw [show cut row (some 2) none = row.drop 2 from cutFrom row 2 rfl]
          refine (fSetSize_of (Nat.le_trans (by rw [List.length_drop]; exact Nat.sub_le _ _) (Nat.le_trans hl (by decide))) σ).trans ?_
          rw [List.drop_drop]
        · rw [if_neg h]
          exact e_ifF (jJ (e_slice rfl rfl rfl) rfl (sbF fun z => h (by rw [← z]; exact (cut2 row 2 1).symm))) rfl
      · generalize frontLen row = k
        by_cases h : 0 < k
        · rw [if_pos h]
          exact jQ (e_ifT (jJ rfl rfl (sbT (Int.ofNat_lt.mpr h))) (e_tup2 (e_tup2 rfl (by rw [← cut2 row 2 k]; exact e_slice rfl rfl (e_bin rfl rfl rfl))) (e_bin (v := .int (2 + k : Nat)) rfl rfl rfl))) rfl
        · rw [if_neg h]
          exact jQ (e_ifF (jJ rfl rfl (sbF fun z => h (Int.ofNat_lt.mp z))) (e_tup2 rfl (e_len rfl rfl))) rfl
    · rw [if_neg h40, if_neg fun z => h41 (.inl z), if_neg fun z => h41 (.inr z), if_neg h98, if_neg h102, if_pos hd] at h ⊢
      by_cases h49 : secB row = [49]
      · rw [if_pos h49]
        rw [h49]
        exact jE (jQ rfl rfl)
      · rw [if_neg h49] at h; exact absurd rfl h
    · rw [if_neg h40, if_neg fun z => h41 (.inl z), if_neg fun z => h41 (.inr z), if_neg h98, if_neg h102, if_neg hd]
      refine kC (e_c (jD rfl jX) (fSingleSize_of (Nat.le_trans hl (by decide)) hne σ)) ?_
      generalize (jU row).getD 0 = z
      show Ev (.ok (.tup [(plainItem row z).1.v, .int (plainItem row z).2], σ)) _
      rw [plainItem]
      refine g_eq z 0 rfl (fun h0 => ?_) (fun h0 => jL ?_)
      · rw [if_pos h0]; exact jE (jQ (e_tup2 rfl (e_len rfl rfl)) rfl)
      · rw [if_neg h0]
        refine kC (v := .bytes ((row.drop z).take 1)) (by rw [← cut2 row z 1]; exact e_slice rfl rfl (e_bin rfl rfl rfl)) ?_
        generalize (row.drop z).take 1 = m
        cases hm : isMany m with
        | true => exact jQ (e_ifT (jJ rfl rfl (sb hm)) (e_tup2 (e_tup3 rfl (by rw [← cut_take]; exact e_sliceT rfl rfl) rfl) (e_bin (v := .int (z + 1 : Nat)) rfl rfl rfl))) rfl
        | false => exact jQ (e_ifF (jJ rfl rfl (sb hm)) (e_tup2 (e_tup2 rfl (by rw [← cut_take]; exact e_sliceT rfl rfl)) rfl)) rfl
  · exact absurd rfl h
end
end
section
variable {w : World} {G : Gd (KF w.params)} {γ : GM}
set_option maxHeartbeats 4000000
open Classical in
noncomputable def onEnc {P S : Type} (enc : P → List V) (r : P → S → Res (V × S)) (xs : List V) (σ : S) : Res (V × S) := if h : ∃ p, enc p = xs then r (Classical.choose h) σ else .stuck
theorem onEnc_eq {P S : Type} {enc : P → List V} {r : P → S → Res (V × S)} (inj : ∀ a b, enc a = enc b → a = b) (p : P) (σ : S) : onEnc enc r (enc p) σ = r p σ := by
  have h : ∃ q, enc q = enc p := ⟨p, rfl⟩
  unfold onEnc
  rw [dif_pos h, inj _ _ (Classical.choose_spec h)]
theorem onEnc_ne {P S : Type} {enc : P → List V} {r : P → S → Res (V × S)} (inj : ∀ a b, enc a = enc b → a = b) {xs : List V} {σ : S} (h : onEnc enc r xs σ ≠ .stuck) : ∃ p, xs = enc p ∧ r p σ ≠ .stuck ∧ onEnc enc r xs σ = r p σ := by
  by_cases hx : ∃ p, enc p = xs
  · obtain ⟨p, rfl⟩ := hx
    rw [onEnc_eq inj] at h
    exact ⟨p, rfl, h, onEnc_eq inj p σ⟩
  · unfold onEnc at h
    rw [dif_neg hx] at h
    exact absurd rfl h
section
variable {Γ S : Type} {γ : Γ} {P : Res ((Out × List V) × S) → Prop} {K B : Γ → Dn S (Out × List V)} {ρ : List V} {σ σ₁ : S} {F Fl Fr : Γ → Dn S V} {Fi Fs : Γ → Dn S (List V)} {i : Nat}
theorem hw_enc {α : Type} {u : List V} {F : Γ → Dn S (Out × List V)} {enc : α → List V} {r : α → S → Res (V × S)} (inj : ∀ a b, enc a = enc b → a = b) (k : Nat) (hk : ∀ p, (enc p).length = k) (h : ∀ p σ, r p σ ≠ .stuck → Ev (r p σ) (F γ (enc p ++ u) σ)) (xs : List V) (σ : S) (hs : onEnc enc r xs σ ≠ .stuck) :
    xs.length = k ∧ ((F γ (xs ++ u) σ).bind fun p => .ok (retOf p.1.1, p.2)) = onEnc enc r xs σ := by
  obtain ⟨p, rfl, h1, h2⟩ := onEnc_ne inj hs
  rw [h2]; exact ⟨hk p, h p σ h1⟩
structure FQ (J : List V → List V → S → Prop) (P : Res ((Out × List V) × S) → Prop) (l : List V) (Q : Res ((Out × List V) × S) → Prop) : Prop where
  next : ∀ ρ σ, J l ρ σ → Q (.ok ((.next, ρ), σ))
  cont : ∀ ρ σ, J l ρ σ → Q (.ok ((.cont, ρ), σ))
  ret : ∀ v ρ σ, P (.ok ((.ret v, ρ), σ)) → Q (.ok ((.ret v, ρ), σ))
  err : P .err → Q .err
noncomputable def FB (J : List V → List V → S → Prop) (P : Res ((Out × List V) × S) → Prop) (l : List V) : Res ((Out × List V) × S) → Prop
  | .ok ((.ret v, ρ), σ) => P (.ok ((.ret v, ρ), σ))
  | .ok ((.next, ρ), σ) => J l ρ σ
  | .ok ((.cont, ρ), σ) => J l ρ σ
  | .err => P .err
  | _ => False
theorem g_for (xs : List V) (J : List V → List V → S → Prop) (h : Fi γ ρ σ = .ok (xs, σ₁)) (h0 : J xs ρ σ₁) (step : ∀ v l ρ σ, J (v :: l) ρ σ → ∀ Q, FQ J P l Q → Q (B γ (ρ.set i v) σ)) (done : ∀ ρ σ, J [] ρ σ → P (K γ ρ σ)) : P (jO (sForD Fi B i) K γ ρ σ) := by
  have key : ∀ xs ρ σ, J xs ρ σ → P ((forD i (B γ) xs ρ σ).bind fun p => onNext p (K γ)) := by
    intro xs
    induction xs with
    | nil => exact fun ρ σ h => done ρ σ h
    | cons v l ih =>
      intro ρ σ h
      have q : FB J P l (B γ (ρ.set i v) σ) := step v l ρ σ h _ ⟨fun _ _ h => h, fun _ _ h => h, fun _ _ _ h => h, fun h => h⟩
      show P (((B γ (ρ.set i v) σ).bind _).bind _)
      cases e : B γ (ρ.set i v) σ with
      | stuck => rw [e] at q; exact q.elim
      | err => rw [e] at q; exact q
      | ok p =>
        rw [e] at q
        obtain ⟨⟨o, ρ'⟩, σ'⟩ := p
        cases o with
        | ret v => exact q
        | brk => exact q.elim
        | next => exact ih _ _ q
        | cont => exact ih _ _ q
  show P (((Fi γ ρ σ).bind _).bind _)
  rw [h]; exact key xs ρ σ₁ h0
theorem evRange2 {a b : Int} (h1 : a.natAbs ≤ 5000) (h2 : b.natAbs ≤ 5000) : evRange [.int a, .int b] = some (rangeL a b) := if_pos ⟨h1, h2⟩
theorem i_range2 {a b : Int} (hl : Fl γ ρ σ = .ok (.int a, σ)) (hr : Fr γ ρ σ = .ok (.int b, σ)) (h1 : a.natAbs ≤ 5000) (h2 : b.natAbs ≤ 5000) : iRangeD (jM Fl (jM Fr lNilD)) γ ρ σ = .ok (rangeL a b, σ) := by
  show (jM Fl (jM Fr lNilD) γ ρ σ).bind _ = _
  rw [jD hl (jD hr jX)]
  show (jV (evRange [.int a, .int b])).bind _ = _
  rw [evRange2 h1 h2]; rfl
theorem e_listRange {a b : Int} (hl : Fl γ ρ σ = .ok (.int a, σ)) (hr : Fr γ ρ σ = .ok (.int b, σ)) (h1 : a.natAbs ≤ 5000) (h2 : b.natAbs ≤ 5000) (h3 : (rangeL a b).length ≤ 4096) : eListRangeD (jM Fl (jM Fr lNilD)) γ ρ σ = .ok (.lst (rangeL a b), σ) := by
  show (jM Fl (jM Fr lNilD) γ ρ σ).bind _ = _
  rw [jD hl (jD hr jX)]
  show (jV (evRange [.int a, .int b])).bind _ = _
  rw [evRange2 h1 h2]
  show (if (rangeL a b).length ≤ 4096 then _ else _) = _
  rw [if_pos h3]
theorem e_rev {l : List V} (h : F γ ρ σ = .ok (.lst l, σ)) (h' : Fr γ ρ σ = .ok (.int (-1), σ)) : eRevD F Fr γ ρ σ = .ok (.lst l.reverse, σ) := by
  show (F γ ρ σ).bind _ = _; rw [h]; show (Fr γ ρ σ).bind _ = _; rw [h']; rfl
theorem e_pick {k1 k2 k3 : List UInt8} {a b c v : V} {F3 F4 : Γ → Dn S V} {x : List UInt8} (h1 : Fl γ ρ σ = .ok (a, σ)) (h2 : Fr γ ρ σ = .ok (b, σ)) (h3 : F3 γ ρ σ = .ok (c, σ)) (h4 : F4 γ ρ σ = .ok (.bytes x, σ)) (h : pick3 k1 k2 k3 a b c (.bytes x) = .ok v) : ePickD k1 k2 k3 Fl Fr F3 F4 γ ρ σ = .ok (v, σ) := by
  show (Fl γ ρ σ).bind _ = _; rw [h1]; show (Fr γ ρ σ).bind _ = _; rw [h2]; show (F3 γ ρ σ).bind _ = _; rw [h3]; show (F4 γ ρ σ).bind _ = _; rw [h4]; show (pick3 k1 k2 k3 a b c (.bytes x)).bind _ = _; rw [h]; rfl
end
theorem rangeL_nats (a k : Nat) : rangeL (a : Int) ((a + k : Nat) : Int) = (rangeN a k).map fun (n : Nat) => V.int n := by
  rw [rangeL, rangeN, List.map_map, show (((a + k : Nat) : Int) - (a : Int)).toNat = k by omega]; rfl
noncomputable def natsV (l : List Nat) : V := .lst (l.map fun (n : Nat) => V.int n)
end
section
variable {w : World} {G : Gd (KF w.params)} {γ : GM}
set_option maxHeartbeats 4000000
section
variable {Γ : Type} {γ : Γ}
theorem It.v_flat (it : It) : Mine.flatT it.v = true := by cases it <;> rfl
theorem secB_len {row : List UInt8} {c : UInt8} (h : secB row = [c]) : 2 ≤ row.length :=
  Decidable.byContradiction fun z => by
    rw [secB, List.drop_eq_nil_of_le (Nat.le_of_lt_succ (Nat.not_le.mp z))] at h; cases h
theorem itemD_pos {row : List UInt8} (hne : row ≠ []) {it : It} {k : Nat} (h : itemD row = some (it, k)) : 0 < k ∧ k ≤ row.length := by
  have h0 : 0 < row.length := List.length_pos_iff.mpr hne
  have one : ∀ {i : It}, (i, 1) = (it, k) → 0 < k ∧ k ≤ row.length := fun e => by cases e; exact ⟨Nat.one_pos, h0⟩
  have all : ∀ {i : It}, (i, row.length) = (it, k) → 0 < k ∧ k ≤ row.length := fun e => by cases e; exact ⟨h0, Nat.le_refl _⟩
  rw [itemD] at h
  split at h
  · split at h
    · rename_i h2; cases h; exact ⟨Nat.succ_pos _, secB_len h2⟩
    · exact one (Option.some.inj h)
  split at h
  · exact one (Option.some.inj h)
  split at h
  · exact one (Option.some.inj h)
  split at h
  · split at h
    · rename_i h2; cases h; exact ⟨Nat.succ_pos _, h2⟩
    · exact all (Option.some.inj h)
  split at h
  · split at h
    · rename_i h2
      cases h
      refine ⟨Nat.lt_of_lt_of_le h2 (Nat.le_add_left _ _), ?_⟩
      rw [frontLen] at h2 ⊢
      split
      · rename_i h3
        rw [if_pos h3] at h2
        cases hs : setSize (row.drop 3) with
        | none => rw [hs] at h2; exact absurd h2 (Nat.lt_irrefl 0)
        | some z =>
          have h4 := (setSize_pos hs)
          rw [List.length_drop] at h4
          show 2 + z ≤ _
          omega
      · rename_i h3
        rw [if_neg h3] at h2; exact absurd h2 (Nat.lt_irrefl 0)
    · exact all (Option.some.inj h)
  split at h
  · split at h
    · rename_i h2; cases h; exact ⟨Nat.succ_pos _, secB_len h2⟩
    · cases h
  have h := Option.some.inj h
  rw [plainItem] at h
  split at h
  · exact all h
  · rename_i hz
    cases hs : jU row with
    | none => rw [hs] at hz; exact absurd rfl hz
    | some z =>
      have h3 := singleSize_pos hs
      rw [hs] at h
      split at h
      · rename_i h2
        cases h
        refine ⟨Nat.succ_pos _, Decidable.byContradiction fun q => ?_⟩
        have h2 : isMany ((row.drop z).take 1) = true := h2
        rw [List.drop_eq_nil_of_le (show row.length ≤ z from Nat.le_of_lt_succ (Nat.not_le.mp q))] at h2
        exact absurd h2 (by decide)
      · cases h; exact h3
noncomputable def itemsRL (p : List UInt8) : Res V := if p.length ≤ 4000 then (itemsF (p.length + 1) p).elim .stuck fun its => .ok (.lst (its.map It.v)) else .stuck
noncomputable def itemsW (ρ : List V) (_ : Unit) : Res V := onCons ρ fun x l => onBytes x fun p => onCons l fun _ l => onCons l fun _ l => onCons l fun _ l => onCons l fun _ l => onNil l (itemsRL p)
noncomputable def fItems {Γ : Type} (_ : Γ) : List V → Unit → Res (V × Unit) := b1 fun p σ => (itemsRL p).bind fun v => .ok (v, σ)
theorem g_app {g : Heap} {P : Res ((Out × List V) × (Addr × List V)) → Prop} {K : Γ → Dn (Addr × List V) (Out × List V)} {ρ : List V} {D : Addr} {l : List V} {u : V} {i j : Nat} (h1 : getv ρ i = .ok (.ref D)) (h2 : getv ρ j = .ok u) (h3 : flatT u = true) (h4 : l.length ≤ 4000) (k : P (K γ ρ (D, l ++ [u]))) : P (jO (sAppD i j) K γ ρ (D, l)) := by
  show P ((sAppD i j γ ρ (D, l)).bind _)
  rw [sAppD_ap, h1, Res.bind_ok, h2, Res.bind_ok, if_pos ⟨isRef_ref D, h3, h4⟩]; exact k
theorem fItem_of {S : Type} {row : List UInt8} {it : It} {k : Nat} (h1 : row.length ≤ 4091) (h2 : row ≠ []) (h : itemD row = some (it, k)) (σ : S) : fItem γ [.bytes row] σ = .ok (.tup [it.v, .int k], σ) :=
  (if_pos ⟨h1, h2⟩ : fItem γ [.bytes row] σ = itemR σ (itemD row)).trans (by rw [h]; rfl)
noncomputable def EvL (s : Res V) (X : Res ((Out × List V) × (Addr × List V))) : Prop := X.bind outL = s
theorem fs_law_items : FS PW w G RU 293 (3 + 1) (fItems ()) := by
  have M := mOk w.params
  refine fs_ofW ["pattern", "found", "at", "thing", "size"] 1 rfl rfl ⟨by decide +kernel, rfl, by decide +kernel⟩ (fun hF => w_newL (F := itemsW) 1 2 hF (jB (γ := ()) (sWhile (fun _ => 5000) (jI op_lt (jA 2 hF) (eLen (jC (jA 0 hF) jK)) rfl) (jB (sSetT 3 4 hF (eC fs_law_item (jC (slice_ (jA 0 hF) (pSome (jA 2 hF)) pNone) jK))) (jB (sApp 1 3 hF) (jB (sSet 2 hF (kD jP (jA 2 hF) (jA 4 hF))) jF)))) (jB (sRet (jA 1 hF)) jF)) (fun ρ hS D => ?_)) (args1 fun _ => rfl) (kindLoc (by decide +kernel)) (by decide) rfl rfl fun xs hS => ?_
  · obtain ⟨_, l, rfl, h1⟩ := jN hS
    obtain ⟨p, rfl, h2⟩ := onBytes_ne h1
    obtain ⟨a, l, rfl, h3⟩ := jN h2
    obtain ⟨b, l, rfl, h4⟩ := jN h3
    obtain ⟨c, l, rfl, h5⟩ := jN h4
    obtain ⟨d, l, rfl, h6⟩ := jN h5
    obtain ⟨rfl, h7⟩ := onNil_ne h6
    clear h1 h2 h3 h4 h5 h6 hS
    show EvL (itemsRL p) _
    rw [itemsRL] at h7 ⊢
    split at h7
    · rename_i hz
      rw [if_pos hz]
      cases hits : itemsF (p.length + 1) p with
      | none => rw [hits] at h7; exact absurd rfl h7
      | some its =>
      clear h7
      refine g_while (fun m ρ σ' => ∃ (q : Nat) (x y : V) (its1 its2 : List It), σ' = (D, its1.map It.v) ∧ ρ = [.bytes p, .ref D, .int q, x, y] ∧ its1 ++ its2 = its ∧ its1.length ≤ q ∧ itemsF m (p.drop q) = some its2) (p.length + 1) (Nat.lt_succ_of_le (Nat.succ_le_succ (Nat.le_trans hz (by decide)))) ⟨0, c, d, [], its, rfl, rfl, rfl, Nat.le_refl _, hits⟩ ?_
      rintro m ρ σ' ⟨q, x, y, its1, its2, rfl, rfl, he, hl1, hk⟩ Q qq
      refine lt_lt q p.length (jJ rfl (e_len rfl rfl) rfl) (fun hl => ?_) (fun hl => ?_)
      · obtain ⟨c, r, hd, hat, hr⟩ := jT (pat := p) hl
        cases m with
        | zero => cases hk
        | succ m =>
        rw [hd] at hk
        obtain ⟨⟨it, z⟩, hi, hk⟩ := Option.bind_eq_some_iff.mp hk
        obtain ⟨its3, h3, rfl⟩ := Option.map_eq_some_iff.mp hk
        have hp := itemD_pos (List.cons_ne_nil c r) hi
        have hlen : (c :: r).length = p.length - q := by rw [← hd, List.length_drop]
        have hf := fItem_of (γ := ()) (S := Addr × List V) (row := c :: r) (by rw [hlen]; omega) (List.cons_ne_nil c r) hi (D, its1.map It.v)
        refine g_setT (e_c (jD (x := .bytes (c :: r)) (by rw [← hd, ← cutFrom p q rfl]; exact e_sliceD rfl rfl) jX) hf) (g_app (g := G.g) rfl rfl it.v_flat (by rw [List.length_map]; omega) (kC (v := .int (q + z : Nat)) rfl (qq.next m _ _ (Nat.lt_succ_self m) ⟨q + z, _, _, its1 ++ [it], its3, by rw [List.map_append]; rfl, rfl, by rw [List.append_assoc]; exact he, ?_, ?_⟩)))
        · rw [List.length_append]; exact Nat.add_le_add hl1 hp.1
        · rw [← List.drop_drop, hd]; exact h3
      · rw [(jS hl).1] at hk
        have : its2 = [] := by
          cases m with
          | zero => cases hk
          | succ m => exact (Option.some.inj hk).symm
        rw [this, List.append_nil] at he
        rw [← he]
        refine jQ rfl ?_
        show (if isRef D (.ref D) = true then _ else _) = _
        rw [if_pos (isRef_ref D)]; rfl
    · exact absurd rfl h7
  · obtain ⟨_, _, rfl, h1⟩ := jN hS
    obtain ⟨a, rfl, h2⟩ := onBytes_ne h1
    obtain ⟨rfl, h3⟩ := onNil_ne h2
    exact ⟨rfl, rfl⟩
end
end
section
variable {w : World} {G : Gd (KF w.params)} {γ : GM}
set_option maxHeartbeats 4000000
noncomputable def encEnds (p : It × List UInt8 × Nat) : List V := [p.1.v, .bytes p.2.1, .int p.2.2]
theorem encEnds_inj (a b : It × List UInt8 × Nat) (h : encEnds a = encEnds b) : a = b := by
  obtain ⟨a1, a2, a3⟩ := a
  obtain ⟨b1, b2, b3⟩ := b
  have h1 := List.cons.inj h
  have h2 := List.cons.inj h1.2
  have h3 := List.cons.inj h2.2
  have e1 : a1 = b1 := It.v_inj h1.1
  have e2 : a2 = b2 := V.bytes.inj h2.1
  have e3 : a3 = b3 := Int.ofNat_inj.mp (V.int.inj h3.1)
  rw [e1, e2, e3]
noncomputable def It.isEnds (it : It) : Bool := it.k == 9 || it.k == 8 || it.k == 3 || it.k == 6 || it.k == 5
noncomputable def fEnds {Γ S : Type} (_ : Γ) : List V → S → Res (V × S) := onEnc encEnds fun p σ => if p.1.isEnds = true ∧ p.1.good = true ∧ smallB p.2.1 ∧ p.2.1.length ≤ 4000 ∧ p.2.2 ≤ p.2.1.length then .ok (natsV (endsD p.2.1 p.1 p.2.2), σ) else .stuck
section
variable {Γ Sy : Type} {γ : Γ} {R : StRep Sy}
theorem fEnds_eq {it : It} {text : List UInt8} {a : Nat} (h1 : it.isEnds = true) (h2 : it.good = true) (h3 : smallB text) (h4 : text.length ≤ 4000) (h5 : a ≤ text.length) (σ : Sy) : fEnds γ [it.v, .bytes text, .int a] σ = .ok (natsV (endsD text it a), σ) :=
  (onEnc_eq encEnds_inj (it, text, a) σ).trans (if_pos ⟨h1, h2, h3, h4, h5⟩)
theorem fRun_of {single text : List UInt8} {a : Nat} (h1 : single.length ≤ 4096) (h2 : single ≠ []) (h3 : smallB text) (h4 : text.length ≤ 4096) (h5 : a ≤ text.length) (σ : Sy) : fRun γ [.bytes single, .bytes text, .int a] σ = .ok (.int (runL single text a), σ) :=
  if_pos ⟨h1, h2, h3, h4, Int.natCast_nonneg a, h5⟩
theorem rangeL_cons {a b : Nat} (h : a < b) : rangeL a b = .int a :: rangeL ((a + 1 : Nat) : Int) b := by
  obtain ⟨k, rfl⟩ : ∃ k, b = a + 1 + k := ⟨b - (a + 1), by omega⟩
  rw [rangeL_nats, show a + 1 + k = a + (k + 1) from Nat.add_right_comm a 1 k, rangeL_nats, rangeN, rangeN, List.range_succ_eq_map, List.map_cons, List.map_cons, List.map_map, List.map_map, List.map_map]
  congr 1
  apply List.map_congr_left; intro j _
  show V.int ((a + (j + 1) : Nat) : Int) = V.int ((a + 1 + j : Nat) : Int)
  rw [Nat.add_right_comm]; rfl
theorem rangeL_nil {a b : Nat} (h : ¬ a < b) : rangeL a b = [] := by
  rw [rangeL, show ((b : Int) - (a : Int)).toNat = 0 by omega]; rfl
theorem natsV_rev (l : List Nat) : V.lst (l.map fun (n : Nat) => V.int n).reverse = natsV l.reverse := by rw [natsV, List.map_reverse]
theorem good_of {s : List UInt8} (h : (s ≠ [] && decide (s.length ≤ 4096)) = true) : s ≠ [] ∧ s.length ≤ 4096 :=
  let q := (Bool.and_eq_true _ _).mp h
  ⟨of_decide_eq_true q.1, of_decide_eq_true q.2⟩
theorem fs_law_ends {R : StRep Unit} : FS PW w G R 314 (3 + 1) (fEnds ()) := by
  have M := mOk w.params
  refine fs_of () ["thing", "text", "at", "kind", "many", "ends", "ahead", "here", "open_ones", "end"] 3 rfl rfl ⟨by decide +kernel, rfl, by decide +kernel⟩ (fun hF => (jB (sSet 3 hF (sub_ (jA 0 hF) jG)) (jB (sIf (jI jR (jA 3 hF) eStr rfl) (jB (sRet (ifexp_ (jI op_gt (eC fs_law_run (jC (sub_ (jA 0 hF) jG) (jC (jA 1 hF) (jC (jA 2 hF) jK)))) jG rfl) (list_ (jC (kD jP (jA 2 hF) jG) jK)) (list_ jK))) jF) jF) (jB (sIf (jI jR (jA 3 hF) eStr rfl) (jB (sSet 4 hF (eC fs_law_run (jC (sub_ (jA 0 hF) jG) (jC (jA 1 hF) (jC (jA 2 hF) jK))))) (jB (sSet 5 hF (eListRange rfl rfl rfl rfl rfl rfl (jC (jA 2 hF) (jC (kD jP (kD jP (jA 2 hF) (jA 4 hF)) jG) jK)) rfl (by decide +kernel) (by decide +kernel))) (jB (sIf (jI jR (sub_ (jA 0 hF) jG) (jZ (by decide)) rfl) (jB (sRet (jA 5 hF)) jF) jF) (jB (sRet (eRev (ePick (F1 := (jY 5)) (F2 := (sliceD (jY 5) (pSomeD (eIntD 1)) pNoneD)) (F3 := (sliceD (jY 5) pNoneD (pSomeD (eIntD 2)))) (Fi := (subD (jY 0) (eIntD 2))) (fun D P => (jA 5 hF)) (fun D P => (slice_ (jA 5 hF) (pSome jG) pNone)) (fun D P => (slice_ (jA 5 hF) pNone (pSome jG))) (fun D P => (sub_ (jA 0 hF) jG))) (kD op_sub jG jG))) jF)))) jF) (jB (sIf (jI jR (jA 3 hF) eStr rfl) (jB (sRet (ifexp_ (jI jR (jA 2 hF) (eLen (jC (jA 1 hF) jK)) rfl) (list_ (jC (jA 2 hF) jK)) (list_ jK))) jF) jF) (jB (sIf (jI jR (jA 3 hF) eStr rfl) (jB (sSetW [("ahead", 6), ("here", 7)] hF (tuple_ (jC (ifexp_ (jI jR (jA 2 hF) jG rfl) jG (sub_ (jA 1 hF) (kD op_sub (jA 2 hF) jG))) (jC (ifexp_ (jI jR (jA 2 hF) (eLen (jC (jA 1 hF) jK)) rfl) jG (sub_ (jA 1 hF) (jA 2 hF))) jK)))) (jB (sRet (ifexp_ (tBool (andCons (tOf (eC fs_law_fits (jC (sub_ (jA 0 hF) jG) (jC (jA 7 hF) jK)))) (andCons (tNot (tOf (eC fs_law_fits (jC (sub_ (jA 0 hF) jG) (jC (jA 6 hF) jK))))) andNil))) (list_ (jC (jA 2 hF) jK)) (list_ jK))) jF)) jF) (jB (sIf (tBool (orCons (jI jR (jA 2 hF) (eLen (jC (jA 1 hF) jK)) rfl) (orCons (jI op_ne (sub_ (jA 1 hF) (jA 2 hF)) (sub_ (jA 0 hF) jG) rfl) orNil))) (jB (sRet (list_ jK)) jF) jF) (jB (sSet 8 hF jG) (jB (sFor 9 hF (iRange rfl rfl rfl (jC (kD jP (jA 2 hF) jG) (jC (eLen (jC (jA 1 hF) jK)) jK)) rfl (by decide +kernel)) (jB (sIf (jI jR (sub_ (jA 1 hF) (jA 9 hF)) (sub_ (jA 0 hF) jG) rfl) (jB (sSet 8 hF (kD op_sub (jA 8 hF) jG)) (jB (sIf (jI jR (jA 8 hF) jG rfl) (jB (sRet (list_ (jC (kD jP (jA 9 hF) jG) jK))) jF) jF) jF)) (jB (sIf (jI jR (sub_ (jA 1 hF) (jA 9 hF)) (sub_ (jA 0 hF) jG) rfl) (jB (sSet 8 hF (kD jP (jA 8 hF) jG)) jF) jF) jF)) jF)) (jB (sRet (list_ jK)) jF)))))))))) (args3 fun _ _ _ => rfl) (kindLoc (by decide +kernel)) (by decide) rfl rfl (hw_enc encEnds_inj 3 (fun _ => rfl) fun p σ h => ?_)
  obtain ⟨it, text, a⟩ := p
  split at h
  · rename_i hz
    rw [if_pos hz]
    obtain ⟨h1, h2, g3, g4, g5⟩ := hz
    have h3 : smallB text := g3
    have h4 : text.length ≤ 4000 := g4
    have h5 : a ≤ text.length := g5
    clear g3 g4 g5 h
    have h4' : text.length ≤ 4096 := Nat.le_trans h4 (by decide)
    refine kC (v := .str (kstr it.k)) (e_sub rfl rfl rfl) ?_
    cases it with
    | one s =>
      have hg := good_of h2
      refine g_t (jJ rfl rfl (kT (.one s) 9 (by decide))) (jE ?_)
      have hr := fRun_of (γ := ()) hg.2 hg.1 h3 h4' h5 σ
      show Ev (.ok (natsV (if 0 < runL s text a then [a + 1] else []), σ)) _
      by_cases hc : 0 < runL s text a
      · rw [if_pos hc]; exact jQ (e_ifT (jJ (e_c (jD (e_sub rfl rfl rfl) (jD rfl (jD rfl jX))) hr) rfl (sbT (Int.ofNat_lt.mpr hc))) rfl) rfl
      · rw [if_neg hc]; exact jQ (e_ifF (jJ (e_c (jD (e_sub rfl rfl rfl) (jD rfl (jD rfl jX))) hr) rfl (sbF fun z => hc (Int.ofNat_lt.mp z))) rfl) rfl
    | many s m =>
      have hg := (Bool.and_eq_true _ _).mp h2
      have hm := isMany_iff.mp hg.2
      have hg := good_of hg.1
      refine g_f (jJ rfl rfl (kT (.many s m) 9 (by decide))) (jL (g_t (jJ rfl rfl (kT (.many s m) 8 (by decide))) (jE ?_)))
      have hr := fRun_of (γ := ()) hg.2 hg.1 h3 h4' h5 σ
      have hle : runL s text a ≤ text.length - a := runL_le
      show Ev (.ok (natsV (if m = [45] then rangeN a (runL s text a + 1) else if m = [42] then (rangeN a (runL s text a + 1)).reverse else if m = [43] then ((rangeN a (runL s text a + 1)).drop 1).reverse else ((rangeN a (runL s text a + 1)).take 2).reverse), σ)) _
      generalize runL s text a = k at hr hle ⊢
      refine kC (e_c (jD (e_sub rfl rfl rfl) (jD rfl (jD rfl jX))) hr) (jE (kC (v := natsV (rangeN a (k + 1))) (by
        rw [natsV, ← rangeL_nats]
        exact e_listRange rfl (e_bin (v := .int (a + (k + 1) : Nat)) (e_bin rfl rfl rfl) rfl rfl) (Nat.le_trans h5 (Nat.le_trans h4 (Nat.le_of_ble_eq_true rfl))) (Nat.le_trans (Nat.succ_le_succ (Nat.le_trans (Nat.add_le_of_le_sub' h5 hle) h4)) (Nat.le_of_ble_eq_true rfl)) (by rw [rangeL_length, Int.natCast_add, Int.add_comm (a : Int), Int.add_sub_cancel, Int.toNat_natCast]; exact Nat.le_trans (Nat.succ_le_succ (Nat.le_trans hle (Nat.le_trans (Nat.sub_le _ _) h4))) (Nat.le_of_ble_eq_true rfl))) (jE (g_if (m = [45]) (jJ (e_sub rfl rfl rfl) rfl rfl) (fun h45 => ?_) (fun h45 => jL (jE ?_))))))
      · rw [if_pos h45]; exact jE (jQ rfl rfl)
      · rw [if_neg h45]
        rcases hm with rfl | rfl | rfl | rfl
        · show Ev (.ok (natsV (rangeN a (k + 1)).reverse, σ)) _
          rw [← natsV_rev]
          exact jQ (e_rev (e_pick rfl rfl rfl (e_sub rfl rfl rfl) rfl) rfl) rfl
        · show Ev (.ok (natsV ((rangeN a (k + 1)).drop 1).reverse, σ)) _
          rw [← natsV_rev, List.map_drop, ← cutFrom _ 1 (i := 1) rfl]
          exact jQ (e_rev (e_pick rfl rfl rfl (e_sub rfl rfl rfl) rfl) rfl) rfl
        · exact absurd rfl h45
        · show Ev (.ok (natsV ((rangeN a (k + 1)).take 2).reverse, σ)) _
          rw [← natsV_rev, List.map_take, ← cut_take _ 2]
          exact jQ (e_rev (e_pick rfl rfl rfl (e_sub rfl rfl rfl) rfl) rfl) rfl
    | end_ =>
      refine g_f (jJ rfl rfl (kT .end_ 9 (by decide))) (jL (g_f (jJ rfl rfl (kT .end_ 8 (by decide))) (jL (g_t (jJ rfl rfl (kT .end_ 3 (by decide))) (jE ?_)))))
      show Ev (.ok (natsV (if a = text.length then [a] else []), σ)) _
      by_cases hc : a = text.length
      · rw [if_pos hc]; exact jQ (e_ifT (jJ rfl (e_len rfl rfl) (sbT (Int.ofNat_inj.mpr hc))) rfl) rfl
      · rw [if_neg hc]; exact jQ (e_ifF (jJ rfl (e_len rfl rfl) (sbF fun z => hc (Int.ofNat_inj.mp z))) rfl) rfl
    | front s =>
      have hg := good_of h2
      refine g_f (jJ rfl rfl (kT (.front s) 9 (by decide))) (jL (g_f (jJ rfl rfl (kT (.front s) 8 (by decide))) (jL (g_f (jJ rfl rfl (kT (.front s) 3 (by decide))) (jL (g_t (jJ rfl rfl (kT (.front s) 6 (by decide))) (jE ?_)))))))
      refine g_set2 (x := .int (aheadN text a)) (y := .int (atN text a)) (σ₁ := σ) (σ₂ := σ) ?_ ?_ (jE ?_)
      · cases a with
        | zero => exact e_ifT rfl rfl
        | succ a => exact e_ifF (jJ rfl rfl (sbF (fun z => Nat.succ_ne_zero a (Int.ofNat_inj.mp z)))) (e_sub rfl (e_bin rfl rfl (si (pred_cast _))) (evItem_bytes h5))
      · by_cases hc : a = text.length
        · rw [(jS (pat := text) (p := a) (by rw [hc]; exact Nat.lt_irrefl _)).2]
          exact e_ifT (jJ rfl (e_len rfl rfl) (sbT (Int.ofNat_inj.mpr hc))) rfl
        · exact e_ifF (jJ rfl (e_len rfl rfl) (sbF fun z => hc (Int.ofNat_inj.mp z))) (e_sub rfl rfl (evItem_bytes (Nat.lt_of_le_of_ne h5 hc)))
      · have ha : aheadN text a < 128 := by
          rw [aheadN]; split
          · decide
          · exact h3.at _
        have T : ∀ ρ : List V, ρ = [(It.front s).v, .bytes text, .int a, .str (kstr 6), .undef, .undef, .int (aheadN text a), .int (atN text a), .undef, .undef] → andConsD (tOfD (eCD (fFits true) (jM (subD (jY 0) (eIntD 1)) (jM (jY 7) lNilD)))) (andConsD (tNotD (tOfD (eCD (fFits true) (jM (subD (jY 0) (eIntD 1)) (jM (jY 6) lNilD))))) andNilD) () ρ σ = .ok (fitsAll s (atN text a) && !fitsAll s (aheadN text a), σ) := fun ρ e => by
          subst e
          exact t_and2 (t_of (e_c (jD (e_sub rfl rfl rfl) (jD rfl jX)) (fFits_of hg.2 hg.1 (h3.at _) σ))) (t_not (t_of (e_c (jD (e_sub rfl rfl rfl) (jD rfl jX)) (fFits_of hg.2 hg.1 ha σ)))) rfl
        show Ev (.ok (natsV (if fitsAll s (atN text a) && !fitsAll s (aheadN text a) then [a] else []), σ)) _
        cases hb : fitsAll s (atN text a) && !fitsAll s (aheadN text a) with
        | true => exact jQ (e_ifT ((T _ rfl).trans (by rw [hb])) rfl) rfl
        | false => exact jQ (e_ifF ((T _ rfl).trans (by rw [hb])) rfl) rfl
    | bal x y =>
      refine g_f (jJ rfl rfl (kT (.bal x y) 9 (by decide))) (jL (g_f (jJ rfl rfl (kT (.bal x y) 8 (by decide))) (jL (g_f (jJ rfl rfl (kT (.bal x y) 3 (by decide))) (jL (g_f (jJ rfl rfl (kT (.bal x y) 6 (by decide))) (jL ?_)))))))
      show Ev (.ok (natsV (if a = text.length ∨ atN text a ≠ x then [] else (balL x y (text.drop (a + 1)) 1 (a + 1)).elim [] fun e => [e]), σ)) _
      by_cases hc : a = text.length
      · rw [if_pos (.inl hc)]
        exact g_t (t_orT (jJ rfl (e_len rfl rfl) (sbT (Int.ofNat_inj.mpr hc)))) (jE (jQ rfl rfl))
      · have ha := Nat.lt_of_le_of_ne h5 hc
        refine g_ne (atN text a) x (t_orF (jJ rfl (e_len rfl rfl) (sbF fun z => hc (Int.ofNat_inj.mp z))) (t_or1 (jJ (e_sub rfl rfl (evItem_bytes ha)) (e_sub rfl rfl rfl) rfl))) (fun hx => ?_) (fun hx => ?_)
        · rw [if_pos (.inr hx)]; exact jE (jQ rfl rfl)
        · rw [if_neg fun z => z.elim hc fun z => z hx]
          generalize hR : balL x y (text.drop (a + 1)) 1 (a + 1) = R
          refine jL (kC rfl (g_for (rangeL ((a + 1 : Nat) : Int) text.length) (fun l ρ σ' => σ' = σ ∧ ∃ (q o : Nat) (j : V), ρ = [(It.bal x y).v, .bytes text, .int a, .str (kstr 5), .undef, .undef, .undef, .undef, .int (o + 1 : Nat), j] ∧ l = rangeL q text.length ∧ balL x y (text.drop q) (o + 1) q = R) (i_range2 rfl (e_len rfl rfl) (by show a + 1 ≤ 5000; omega) (by show text.length ≤ 5000; omega)) ⟨rfl, a + 1, 0, _, rfl, rfl, hR⟩ ?_ ?_))
          · rintro v l ρ σ' ⟨rfl, q, o, j, rfl, hl, hR⟩ Q qq
            by_cases hq : q < text.length
            case neg => rw [rangeL_nil hq] at hl; cases hl
            rw [rangeL_cons hq] at hl
            cases hl
            rw [balL_at _ _ _ hq] at hR
            have go : ∀ o : Nat, balL x y (text.drop (q + 1)) (o + 1) (q + 1) = R → Q (.ok ((.next, [(It.bal x y).v, .bytes text, .int a, .str (kstr 5), .undef, .undef, .undef, .undef, .int (o + 1 : Nat), .int q]), σ')) := fun o e => qq.next _ _ ⟨rfl, q + 1, o, _, rfl, rfl, e⟩
            refine g_eq (atN text q) y (jJ (e_sub rfl rfl (evItem_bytes hq)) (e_sub rfl rfl rfl) rfl) (fun hy => ?_) (fun hy => ?_)
            · rw [if_pos hy] at hR
              cases o with
              | zero =>
                refine jE (kC (v := .int 0) rfl (jE (g_t rfl (jE (jQ rfl (qq.ret _ _ _ ?_))))))
                rw [← hR]; rfl
              | succ o =>
                refine jE (kC (v := .int (o + 1 : Nat)) (e_bin rfl rfl (si (pred_cast _))) (jE (g_f (jJ rfl rfl (sbF (fun z => Nat.succ_ne_zero o (Int.ofNat_inj.mp z)))) (jL (jL (go o ?_))))))
                rw [if_neg (by omega)] at hR; exact hR
            · rw [if_neg hy] at hR
              refine jE (g_eq (atN text q) x (jJ (e_sub rfl rfl (evItem_bytes hq)) (e_sub rfl rfl rfl) rfl) (fun hx => ?_) (fun hx => ?_))
              · rw [if_pos hx] at hR
                exact jE (kC (v := .int (o + 1 + 1 : Nat)) rfl (jL (jL (go (o + 1) hR))))
              · rw [if_neg hx] at hR
                exact jL (jL (go o hR))
          · rintro ρ σ' ⟨rfl, q, o, j, rfl, hl, hR⟩
            have hq : ¬ q < text.length := fun z => by rw [rangeL_cons z] at hl; cases hl
            rw [(jS hq).1] at hR
            rw [← hR]
            exact jQ rfl rfl
    | _ => cases h1
  · exact absurd rfl h
end
end
section
variable {w : World} {G : Gd (KF w.params)} {γ : GM}
set_option maxHeartbeats 4000000
noncomputable def wayV (o : Option (Nat × Held)) : V := o.elim .none fun p => .tup [.int p.1, heldV p.2]
noncomputable def wayR (r : Res (Option (Nat × Held))) : Res (V × Unit) := r.bind fun o => .ok (wayV o, ())
noncomputable def encWay (p : List It × List UInt8 × Nat × Held) : List V := [.lst (p.1.map It.v), .bytes p.2.1, .int p.2.2.1, heldV p.2.2.2]
theorem map_inj {α : Type} {g : α → V} (hg : ∀ a b, g a = g b → a = b) (l : List α) : ∀ m : List α, l.map g = m.map g → l = m := by
  induction l with
  | nil => intro m h; cases m with
    | nil => rfl
    | cons b m => cases h
  | cons a l ih => intro m h; cases m with
    | nil => cases h
    | cons b m =>
      have q := List.cons.inj h
      rw [hg _ _ q.1, ih m q.2]
theorem heldOne_inj (a b : Nat × Option Int) (h : heldOne a = heldOne b) : a = b := by
  obtain ⟨a1, a2⟩ := a
  obtain ⟨b1, b2⟩ := b
  have h1 := List.cons.inj (V.tup.inj h)
  have h2 := (List.cons.inj h1.2).1
  have e1 : a1 = b1 := Int.ofNat_inj.mp (V.int.inj h1.1)
  have e2 : a2 = b2 := by
    cases a2 <;> cases b2
    · rfl
    · cases h2
    · cases h2
    · exact congrArg some (V.int.inj h2)
  rw [e1, e2]
theorem encWay_inj (a b : List It × List UInt8 × Nat × Held) (h : encWay a = encWay b) : a = b := by
  obtain ⟨a1, a2, a3, a4⟩ := a
  obtain ⟨b1, b2, b3, b4⟩ := b
  have h1 := List.cons.inj h
  have h2 := List.cons.inj h1.2
  have h3 := List.cons.inj h2.2
  have h4 := List.cons.inj h3.2
  have e1 : a1 = b1 := map_inj (fun _ _ => It.v_inj) _ _ (V.lst.inj h1.1)
  have e2 : a2 = b2 := V.bytes.inj h2.1
  have e3 : a3 = b3 := Int.ofNat_inj.mp (V.int.inj h3.1)
  have e4 : a4 = b4 := map_inj heldOne_inj _ _ (V.lst.inj h4.1)
  rw [e1, e2, e3, e4]
noncomputable def rWay (k : Nat) (p : List It × List UInt8 × Nat × Held) (_ : Unit) : Res (V × Unit) := if smallB p.2.1 ∧ p.2.1.length ≤ 4000 ∧ p.1.length ≤ k ∧ p.1.length ≤ 1000 then wayR (wayD p.2.1 p.1 p.2.2.1 p.2.2.2) else .stuck
noncomputable def fWay {Γ : Type} (k : Nat) (_ : Γ) : List V → Unit → Res (V × Unit) := onEnc encWay (rWay k)
section
variable {Γ : Type} {γ : Γ} {S : Type} {ρ : List V} {σ σ₁ : S} {F Fl Fr : Γ → Dn S V} {P : Res ((Out × List V) × S) → Prop} {K : Γ → Dn S (Out × List V)}
theorem fWay_eq {k : Nat} (its : List It) (text : List UInt8) (a : Nat) (held : Held) (σ : Unit) : fWay k γ [.lst (its.map It.v), .bytes text, .int a, heldV held] σ = rWay k (its, text, a, held) σ := onEnc_eq (r := rWay k) encWay_inj (its, text, a, held) σ
theorem e_list1 {x : V} (h : F γ ρ σ = .ok (x, σ₁)) : listD (jM F lNilD) γ ρ σ = .ok (.lst [x], σ₁) := by
  show ((F γ ρ σ).bind _).bind _ = _; rw [h]; rfl
theorem e_sliceDL {Fa : Γ → Dn S V} {l : List V} {lo : Int} (n : Nat) (hv : F γ ρ σ = .ok (.lst l, σ)) (hl : Fa γ ρ σ = .ok (.int lo, σ)) (e : lo = n) : sliceD F (pSomeD Fa) pNoneD γ ρ σ = .ok (.lst (l.drop n), σ) := by
  show (F γ ρ σ).bind _ = _; rw [hv]; show ((Fa γ ρ σ).bind _).bind _ = _; rw [hl, ← cutFrom l n e]; rfl
theorem e_sliceTL {Fa : Γ → Dn S V} {l : List V} {lo : Int} (n : Nat) (hv : F γ ρ σ = .ok (.lst l, σ)) (hl : Fa γ ρ σ = .ok (.int lo, σ)) (e : lo = n) : sliceD F pNoneD (pSomeD Fa) γ ρ σ = .ok (.lst (l.take n), σ) := by
  subst e
  show (F γ ρ σ).bind _ = _; rw [hv]; show ((Fa γ ρ σ).bind _).bind _ = _; rw [hl, ← cut_take l n]; rfl
theorem evAdd_lst {a b : List V} (h : a.length + b.length ≤ 4096) : evAdd (.lst a) (.lst b) = some (.lst (a ++ b)) := by
  show (none : Option V).or (if a.length + b.length ≤ 4096 then _ else none) = _; rw [if_pos h]; rfl
theorem i_list {l : List V} (h : F γ ρ σ = .ok (.lst l, σ₁)) : iListD F γ ρ σ = .ok (l, σ₁) := by
  show (F γ ρ σ).bind _ = _; rw [h]; rfl
end
theorem item_getD {α : Type} {g : α → V} {l : List α} {n : Nat} (d : α) (h : n < l.length) : itemL (l.map g) (n : Int) = some (g (l.getD n d)) := by
  show (if 0 ≤ (n : Int) then (l.map g)[n]? else none) = _
  rw [if_pos (Int.natCast_nonneg n), List.getElem?_map, List.getElem?_eq_getElem h, List.getD_eq_getElem?_getD, List.getElem?_eq_getElem h]; rfl
theorem evItem_lst {l : List V} {n : Int} {v : V} (h : itemL l n = some v) : evItem (.lst l) (.int n) = some v := h
theorem heldV_app (h l : Held) : V.lst (h.map heldOne ++ l.map heldOne) = heldV (h ++ l) := by rw [heldV, List.map_append]
end
section
variable {w : World} {G : Gd (KF w.params)} {γ : GM}
set_option maxHeartbeats 4000000
section
variable {Γ : Type} {γ : Γ}
theorem isNone_optI (o : Option Int) : isNone (optI o) = o.isNone := by cases o <;> rfl
theorem enumD_wait {Ft : List V → Unit → Res (Bool × Unit)} (hF : ∀ k p, Ft [.int k, heldOne p] () = .ok (p.2.isNone, ())) (h : Held) : ∀ k : Nat, enumD Ft k (h.map heldOne) = .ok (((List.range h.length).filter fun i => (h.getD i (0, none)).2.isNone).map fun (i : Nat) => V.int ((k + i : Nat) : Int)) := by
  induction h with
  | nil => exact fun k => rfl
  | cons p h ih =>
    intro k
    have e2 : ∀ l : List Nat, (l.map Nat.succ).map (fun (i : Nat) => V.int ((k + i : Nat) : Int)) = l.map (fun (i : Nat) => V.int ((k + 1 + i : Nat) : Int)) := fun l => by
      rw [List.map_map]; apply List.map_congr_left; intro i _; show V.int ((k + (i + 1) : Nat) : Int) = _; rw [Nat.add_right_comm]; rfl
    rw [List.map_cons]
    show (Ft [.int k, heldOne p] ()).only _ = _
    rw [hF]
    show Res.bind (enumD Ft (k + 1) (h.map heldOne)) _ = _
    rw [ih (k + 1), List.length_cons, List.range_succ_eq_map, List.filter_cons, List.filter_map]
    show Res.ok (bif p.2.isNone then _ else _) = Res.ok ((if p.2.isNone = true then _ else _ : List Nat).map _)
    cases p.2.isNone
    · exact congrArg Res.ok (e2 _).symm
    · exact congrArg (fun l => Res.ok (V.int k :: l)) (e2 _).symm
theorem g_enum {P : Res ((Out × List V) × Unit) → Prop} {K : Γ → Dn Unit (Out × List V)} {Ft : Γ → List V → Unit → Res (Bool × Unit)} {ρ : List V} {σ : Unit} {i j : Nat} {l r : List V} (hj : getv ρ j = .ok (.lst l)) (hl : l.length ≤ 4000) (h : enumD (Ft γ) 0 l = .ok r) (a : P (K γ (ρ.set i (.lst r)) σ)) : P (jO (sEnumCompD Ft i j) K γ ρ σ) := by
  show P ((sEnumCompD Ft i j γ ρ σ).bind _)
  rw [sEnumCompD_ap, hj]
  show P (Res.bind (if l.length ≤ 4000 then _ else _) _)
  rw [if_pos hl, h]; exact a
theorem set_map {held : Held} {i : Nat} (hi : i < held.length) (x : Nat × Option Int) : (held.map heldOne).take i ++ [heldOne x] ++ (held.map heldOne).drop (i + 1) = (held.set i x).map heldOne := by
  rw [List.set_eq_take_append_cons_drop, if_pos hi, List.map_append, List.map_cons, List.map_take, List.map_drop, List.append_assoc]; rfl
theorem wait_lt {h : Held} {i : Nat} (hi : (waitL h).getLast? = some i) : i < h.length := by
  have := List.mem_of_getLast? hi
  rw [waitL, List.mem_filter, List.mem_range] at this
  exact this.1
theorem tryD_one {α : Type} (f : Nat → Res (Option α)) (z : Nat) : tryD f [z] = f z := by
  show (f z).bind _ = _
  cases f z with
  | ok o => cases o <;> rfl
  | _ => rfl
theorem t_conv {S : Type} {T : Γ → Dn S Bool} {ρ : List V} {σ σ₁ : S} {b c : Bool} (h : T γ ρ σ = .ok (b, σ₁)) (e : b = c) : T γ ρ σ = .ok (c, σ₁) := e ▸ h
section
variable {text : List UInt8} {it : It} {rest : List It} {a : Nat} {held : Held}
theorem way_good (hs : wayD text (it :: rest) a held ≠ .stuck) : it.good = true ∧ a ≤ text.length ∧ held.length ≤ 100 := Decidable.byContradiction fun z => hs (by cases it <;> exact if_neg z)
variable (hg : it.good = true ∧ a ≤ text.length ∧ held.length ≤ 100)
include hg
theorem way_4 (h : it.k = 4) : wayD text (it :: rest) a held = .err := by cases it <;> first | exact if_pos hg | cases h
theorem way_01 (h : it.k = 0 ∨ it.k = 1) : wayD text (it :: rest) a held = wayD text rest a (held ++ [(a, if it.k = 0 then none else some (-1))]) := by cases it <;> first | exact if_pos hg | exact (h.elim (fun z => nomatch z) fun z => nomatch z)
theorem way_2 (h : it.k = 2) : wayD text (it :: rest) a held = ((waitL held).getLast?.elim .err fun i => wayD text rest a (held.set i ((held.getD i (0, none)).1, some a))) := by cases it <;> first | exact if_pos hg | cases h
theorem way_E (h : it.isEnds = true) : wayD text (it :: rest) a held = tryD (fun e => wayD text rest e held) (endsD text it a) := by cases it <;> first | exact if_pos hg | cases h
omit hg
theorem It.is7 (h : it.k = 7) : ∃ m, it = .again m := by cases it <;> first | exact ⟨_, rfl⟩ | cases h
theorem It.isE (h4 : ¬it.k = 4) (h0 : ¬(it.k = 0 ∨ it.k = 1)) (h2 : ¬it.k = 2) (h7 : ¬it.k = 7) : it.isEnds = true := by cases it <;> first | rfl | exact absurd rfl h4 | exact absurd (.inl rfl) h0 | exact absurd (.inr rfl) h0 | exact absurd rfl h2 | exact absurd rfl h7
theorem again_no {f : Nat → Res (Option (Nat × Held))} {W : Res (Option (Nat × Held))} {b : Nat} {e : Int} (hs : W ≠ .stuck) (hW : againW text f a b e = W)
    (hb : (decide (0 ≤ e) && decide (cut text (some (a : Int)) (some ((a : Int) + e - b)) = cut text (some (b : Int)) (some e))) = false) : Res.ok none = W := by
  rw [← hW] at hs ⊢
  clear hW W
  rw [againW] at hs ⊢
  by_cases he : 0 ≤ e
  · rw [if_pos he] at hs ⊢
    by_cases hz : 0 ≤ (a : Int) + e - b
    · rw [if_pos hz, if_neg]
      intro z
      rw [decide_eq_true he, decide_eq_true z] at hb; cases hb
    · rw [if_neg hz] at hs; exact absurd rfl hs
  · rw [if_neg he]
theorem again_yes {f : Nat → Res (Option (Nat × Held))} {W : Res (Option (Nat × Held))} {b : Nat} {e : Int} (hs : W ≠ .stuck) (hW : againW text f a b e = W)
    (hb : (decide (0 ≤ e) && decide (cut text (some (a : Int)) (some ((a : Int) + e - b)) = cut text (some (b : Int)) (some e))) = true) : 0 ≤ (a : Int) + e - b ∧ tryD f [((a : Int) + e - b).toNat] = W := by
  have hb := (Bool.and_eq_true _ _).mp hb
  rw [againW, if_pos (of_decide_eq_true hb.1), if_pos (of_decide_eq_true hb.2)] at hW
  by_cases hz : 0 ≤ (a : Int) + e - b
  · rw [if_pos hz] at hW; exact ⟨hz, (tryD_one _ _).trans hW⟩
  · rw [if_neg hz] at hW; exact absurd hW.symm hs
end
inductive WJ (r0 r1 r2 r3 r4 r5 : V) (T : List Nat → Prop) : List V → Unit → Prop
  | mk (ns : List Nat) (d e j : V) (h : T ns) : WJ r0 r1 r2 r3 r4 r5 T [r0, r1, r2, r3, r4, r5, .undef, .undef, natsV ns, d, e, j] ()
inductive WL (r0 r1 r2 r3 r4 r5 r8 r9 : V) (T : List Nat → Prop) : List V → List V → Unit → Prop
  | mk (ns : List Nat) (l : List V) (d e : V) (h : l = ns.map fun (n : Nat) => V.int n) (hT : T ns) : WL r0 r1 r2 r3 r4 r5 r8 r9 T l [r0, r1, r2, r3, r4, r5, .undef, .undef, r8, r9, d, e] ()
theorem lst_set {held : Held} {i : Nat} (hi : i < held.length) (h : held.length ≤ 100) (x : Nat × Option Int) : evAdd (.lst ((held.map heldOne).take i ++ [heldOne x])) (.lst ((held.map heldOne).drop (i + 1))) = some (heldV (held.set i x)) := by
  refine (evAdd_lst ?_).trans (congrArg (fun l => some (V.lst l)) (set_map hi _))
  rw [← List.length_append]
  refine Nat.le_trans (Nat.le_of_eq (congrArg List.length (set_map hi _))) ?_
  rw [List.length_map, List.length_set]; exact Nat.le_trans h (Nat.le_of_ble_eq_true rfl)
theorem wait_last {h : Held} {w : Nat} {ws : List Nat} (hw : waitL h = w :: ws) : (waitL h).getLast? = some ((w :: ws).getD ws.length 0) := by
  rw [hw, List.getLast?_eq_getElem?, List.getD_eq_getElem?_getD]
  show (w :: ws)[ws.length]? = _
  rw [List.getElem?_eq_getElem (Nat.lt_succ_self _)]; rfl
theorem fs_law_way_step {n k : Nat} (hn : 4 ≤ n) {Fr : List V → Unit → Res (V × Unit)} (fsr : FS PW w G RU 319 n Fr) (hFr : ∀ (rest : List It) (text : List UInt8) (a : Nat) (held : Held), rest.length < k → Fr [.lst (rest.map It.v), .bytes text, .int a, heldV held] () = rWay 1000 (rest, text, a, held) ()) : FS PW w G RU 319 (n + 1) (fWay k Fr) := by
  have M := mOk w.params
  refine fs_of Fr ["items", "text", "at", "held", "kind", "rest", "waiting", "spot", "ends", "begin", "end", "found"] 4 rfl rfl ⟨by decide +kernel, rfl, by decide +kernel⟩ (fun hF => (jB (sIf (jI op_eqL (jA 0 hF) (list_ jK) rfl) (jB (sRet (tuple_ (jC (jA 2 hF) (jC (jA 3 hF) jK)))) jF) jF) (jB (sSetW [("kind", 4), ("rest", 5)] hF (tuple_ (jC (sub_ (sub_ (jA 0 hF) jG) jG) (jC (slice_ (jA 0 hF) (pSome jG) pNone) jK)))) (jB (sIf (jI jR (jA 4 hF) eStr rfl) (jB (sRz M (jZ (by decide))) jF) jF) (jB (sIf (tBool (orCons (jI jR (jA 4 hF) eStr rfl) (orCons (jI jR (jA 4 hF) eStr rfl) orNil))) (jB (sRet (eC (γ := Fr) (F := fun g => g) fsr (jC (jA 5 hF) (jC (jA 1 hF) (jC (jA 2 hF) (jC (kD jP (jA 3 hF) (list_ (jC (tuple_ (jC (jA 2 hF) (jC (ifexp_ (jI jR (jA 4 hF) eStr rfl) eNone (kD op_sub jG jG)) jK))) jK))) jK)))))) jF) jF) (jB (sIf (jI jR (jA 4 hF) eStr rfl) (jB (sEnumComp 6 3 hF ⟨by decide +kernel, rfl, by decide +kernel⟩ (fun D vs => jI op_is (sub_ (jA 1 ⟨by decide +kernel, rfl, by decide +kernel⟩) jG) eNone rfl) (by decide +kernel) (by decide +kernel) rfl (by decide +kernel) (by decide +kernel) (by decide +kernel) (by decide +kernel) rfl rfl (by decide +kernel) (by decide +kernel) (by decide +kernel)) (jB (sIf (jI op_eqL (jA 6 hF) (list_ jK) rfl) (jB (sRz M (jZ (by decide))) jF) jF) (jB (sSet 7 hF (sub_ (jA 6 hF) (kD op_sub (eLen (jC (jA 6 hF) jK)) jG))) (jB (sRet (eC (γ := Fr) (F := fun g => g) fsr (jC (jA 5 hF) (jC (jA 1 hF) (jC (jA 2 hF) (jC (kD jP (kD jP (slice_ (jA 3 hF) pNone (pSome (jA 7 hF))) (list_ (jC (tuple_ (jC (sub_ (sub_ (jA 3 hF) (jA 7 hF)) jG) (jC (jA 2 hF) jK))) jK))) (slice_ (jA 3 hF) (pSome (kD jP (jA 7 hF) jG)) pNone)) jK)))))) jF)))) jF) (jB (sSet 8 hF (list_ jK)) (jB (sIf (jI jR (jA 4 hF) eStr rfl) (jB (sIf (tBool (orCons (tNot (tchain_ op_le op_lt jG (sub_ (sub_ (jA 0 hF) jG) jG) (eLen (jC (jA 3 hF) jK)) rfl)) (orCons (jI op_is (sub_ (sub_ (jA 3 hF) (sub_ (sub_ (jA 0 hF) jG) jG)) jG) eNone rfl) orNil))) (jB (sRz M (jZ (by decide))) jF) jF) (jB (sSetT 9 10 hF (sub_ (jA 3 hF) (sub_ (sub_ (jA 0 hF) jG) jG))) (jB (sIf (tBool (andCons (jI op_ge (jA 10 hF) jG rfl) (andCons (jI jR (slice_ (jA 1 hF) (pSome (jA 2 hF)) (pSome (kD op_sub (kD jP (jA 2 hF) (jA 10 hF)) (jA 9 hF)))) (slice_ (jA 1 hF) (pSome (jA 9 hF)) (pSome (jA 10 hF))) rfl) andNil))) (jB (sSet 8 hF (list_ (jC (kD op_sub (kD jP (jA 2 hF) (jA 10 hF)) (jA 9 hF)) jK))) jF) jF) jF))) (jB (sSet 8 hF (eC (γ := Fr) (F := fun _ => fEnds ()) fs_law_ends (jC (sub_ (jA 0 hF) jG) (jC (jA 1 hF) (jC (jA 2 hF) jK))))) jF)) (jB (sFor 10 hF (iList (jA 8 hF)) (jB (sSet 11 hF (eC (γ := Fr) (F := fun g => g) fsr (jC (jA 5 hF) (jC (jA 1 hF) (jC (jA 10 hF) (jC (jA 3 hF) jK)))))) (jB (sIf (jI op_isnot (jA 11 hF) eNone rfl) (jB (sRet (jA 11 hF)) jF) jF) jF))) (jB (sRet eNone) jF)))))))))) (args4 fun _ _ _ _ => rfl) (kindLoc (by decide +kernel)) (by decide) rfl rfl (hw_enc encWay_inj 4 (fun _ => rfl) fun p σ h => ?_)
  obtain ⟨its, text, a, held⟩ := p
  rw [rWay] at h ⊢
  split at h
  · rename_i hz
    rw [if_pos hz]
    have c1 : smallB text := hz.1
    have c2 : text.length ≤ 4000 := hz.2.1
    have c3 : its.length ≤ k := hz.2.2.1
    have c4 : its.length ≤ 1000 := hz.2.2.2
    have hs : wayD text its a held ≠ .stuck := fun e => h (by show wayR (wayD text its a held) = _; rw [e]; rfl)
    clear h hz
    show Ev (wayR (wayD text its a held)) _
    cases its with
    | nil => exact g_t rfl (jE (jQ (e_tup2 rfl rfl) rfl))
    | cons it rest =>
    have rec' : ∀ (z : Nat) held', Fr [.lst (rest.map It.v), .bytes text, .int z, heldV held'] () = wayR (wayD text rest z held') := fun z held' => (hFr rest text z held' (Nat.lt_of_succ_le c3)).trans (if_pos ⟨c1, c2, Nat.le_of_succ_le c4, Nat.le_of_succ_le c4⟩)
    have hg := way_good hs
    generalize hW : wayD text (it :: rest) a held = W at hs ⊢
    have hlen : ∀ l : Held, l.length ≤ 200 → (held.map heldOne).length + (l.map heldOne).length ≤ 4096 := fun l hl => by rw [List.length_map, List.length_map]; have := hg.2.2; omega
    refine g_f rfl (jL (g_set2 (x := .str (kstr it.k)) (y := .lst (rest.map It.v)) (σ₁ := ()) (σ₂ := ()) (e_sub (e_sub rfl rfl rfl) rfl rfl) (e_sliceDL (l := it.v :: rest.map It.v) 1 rfl rfl rfl) ?_))
    by_cases h4 : it.k = 4
    · have hW := (way_4 hg h4).symm.trans hW
      exact g_t (jJ rfl rfl ((kT it 4 (by decide)).trans (sbT h4))) (jE (g_raise rfl (by rw [← hW]; rfl)))
    refine g_f (jJ rfl rfl ((kT it 4 (by decide)).trans (sbF h4))) (jL ?_)
    by_cases h01 : it.k = 0 ∨ it.k = 1
    · have hW := (way_01 hg h01).symm.trans hW
      refine g_t (t_conv (t_or2 (jJ rfl rfl (kT it 0 (by decide))) (jJ rfl rfl (kT it 1 (by decide))) (Bool.decide_or _ _).symm) (decide_eq_true h01)) (jE (ev_ret (e_c (jD rfl (jD rfl (jD rfl (jD (x := heldV (held ++ [(a, if it.k = 0 then none else some (-1))])) (σ₁ := ()) (e_bin rfl (e_list1 (x := heldOne (a, if it.k = 0 then none else some (-1))) (σ₁ := ()) (e_tup2 rfl ?_)) ((evAdd_lst (hlen [_] (by show 1 ≤ 200; decide))).trans (congrArg some (heldV_app _ _)))) jX)))) ?_)))
      · by_cases h0 : it.k = 0
        · rw [if_pos h0]; exact e_ifT (jJ rfl rfl ((kT it 0 (by decide)).trans (sbT h0))) rfl
        · rw [if_neg h0]; exact e_ifF (jJ rfl rfl ((kT it 0 (by decide)).trans (sbF h0))) rfl
      · rw [← hW]; exact rec' _ _
    refine g_f (t_conv (t_or2 (jJ rfl rfl (kT it 0 (by decide))) (jJ rfl rfl (kT it 1 (by decide))) (Bool.decide_or _ _).symm) (decide_eq_false h01)) (jL ?_)
    by_cases h2 : it.k = 2
    · have hW := (way_2 hg h2).symm.trans hW
      refine g_t (jJ rfl rfl ((kT it 2 (by decide)).trans (sbT h2))) (jE (g_enum (r := (waitL held).map fun (i : Nat) => V.int i) rfl (by rw [List.length_map]; exact Nat.le_trans hg.2.2 (by decide)) ((enumD_wait (fun k p => jJ (e_sub rfl rfl rfl) rfl (sb (isNone_optI p.2))) held 0).trans (by rw [waitL]; congr 2; funext i; rw [Nat.zero_add])) ?_))
      cases hw : waitL held with
      | nil =>
        rw [hw] at hW
        exact jE (g_t (jJ rfl rfl rfl) (jE (g_raise rfl (by rw [← hW]; rfl))))
      | cons w ws =>
        have hl := wait_last hw
        rw [hl] at hW
        have hi := wait_lt hl
        have hW : wayD text rest a (held.set ((w :: ws).getD ws.length 0) ((held.getD ((w :: ws).getD ws.length 0) (0, none)).1, some a)) = W := hW
        refine jE (g_f (jJ rfl rfl rfl) (jL (jE (kC (v := .int ((w :: ws).getD ws.length 0 : Nat)) (e_sub rfl (e_bin (e_len rfl rfl) rfl (si ((congrArg (fun n : Nat => (n : Int) - 1) (List.length_map _)).trans (pred_cast ws.length)))) (evItem_lst (item_getD 0 (Nat.lt_succ_self _)))) (jE ?_)))))
        generalize (w :: ws).getD ws.length 0 = i at hi hW
        refine ev_ret (e_c (jD rfl (jD rfl (jD rfl (jD (x := heldV (held.set i ((held.getD i (0, none)).1, some (a : Int)))) (σ₁ := ()) (e_bin (e_bin (e_sliceTL i rfl rfl rfl) (e_list1 (x := heldOne ((held.getD i (0, none)).1, some (a : Int))) (e_tup2 (e_sub (e_sub rfl rfl (evItem_lst (item_getD (0, none) hi))) rfl rfl) rfl)) (evAdd_lst ?_)) (e_sliceDL (i + 1) rfl (e_bin rfl rfl rfl) rfl) (lst_set hi hg.2.2 _)) jX)))) ?_)
        · rw [List.length_take, List.length_map]; exact Nat.le_trans (Nat.add_le_add_right (Nat.min_le_right _ _) _) (Nat.le_trans (Nat.add_le_add_right hg.2.2 _) (Nat.le_of_ble_eq_true rfl))
        · rw [← hW]; exact rec' _ _
    refine g_f (jJ rfl rfl ((kT it 2 (by decide)).trans (sbF h2))) (jL (kC (v := natsV []) rfl (g_bj (WJ (.lst (it.v :: rest.map It.v)) (.bytes text) (.int a) (heldV held) (.str (kstr it.k)) (.lst (rest.map It.v)) fun ns => tryD (fun e => wayD text rest e held) ns = W) (decide (it.k = 7)) (jJ rfl rfl (kT it 7 (by decide))) (fun h7 => ?_) (fun h7 => ?_) ?_)))
    · obtain ⟨m, rfl⟩ := It.is7 (of_decide_eq_true h7)
      have hW : (if 0 ≤ m ∧ m < held.length then (held.getD m.toNat (0, none)).2.elim .err fun e => againW text (fun z => wayD text rest z held) a (held.getD m.toNat (0, none)).1 e else .err) = W := (if_pos hg).symm.trans hW
      have hch : (decide (0 ≤ m) && decide (m < ((held.map heldOne).length : Int))) = decide (0 ≤ m ∧ m < held.length) := by rw [List.length_map, Bool.decide_and]
      by_cases hm : 0 ≤ m ∧ m < held.length
      · obtain ⟨q, rfl⟩ := Int.eq_ofNat_of_zero_le hm.1
        have hx := item_getD (g := heldOne) (0, none) (Int.ofNat_lt.mp hm.2)
        rw [if_pos hm] at hW
        have hW : (held.getD q (0, none)).2.elim .err (fun e => againW text (fun z => wayD text rest z held) a (held.getD q (0, none)).1 e) = W := hW
        generalize held.getD q (0, none) = x at hW hx
        obtain ⟨b, o⟩ := x
        have T1 := t_conv (t_not (t_chain (γ := Fr) (σ := ()) (ρ := [.lst ((It.again q).v :: rest.map It.v), .bytes text, .int a, heldV held, .str (kstr 7), .lst (rest.map It.v), .undef, .undef, natsV [], .undef, .undef, .undef]) (Fl := eIntD 0) (Fa := subD (subD (jY 0) (eIntD 0)) (eIntD 1)) (Fb := eLenD (jM (jY 3) lNilD)) (ev₁ := evLe) (ev₂ := evLt) rfl (e_sub (e_sub rfl rfl rfl) rfl rfl) (e_len rfl rfl) rfl rfl)) (congrArg (fun b => !b) (hch.trans (decide_eq_true hm)))
        cases o with
        | none => exact g_t (t_orF T1 (t_or1 (jJ (e_sub (e_sub rfl (e_sub (e_sub rfl rfl rfl) rfl rfl) (evItem_lst hx)) rfl rfl) rfl rfl))) (jE (g_raise rfl (by show Ev _ _; rw [← hW]; rfl)))
        | some e =>
          have hW : againW text (fun z => wayD text rest z held) a b e = W := hW
          refine g_f (t_orF T1 (t_or1 (jJ (e_sub (e_sub rfl (e_sub (e_sub rfl rfl rfl) rfl rfl) (evItem_lst hx)) rfl rfl) rfl rfl))) (jL (g_setT (x := .int b) (y := .int e) (e_sub rfl (e_sub (e_sub rfl rfl rfl) rfl rfl) (evItem_lst hx)) (g_b (decide (0 ≤ e) && decide (cut text (some (a : Int)) (some ((a : Int) + e - b)) = cut text (some (b : Int)) (some e))) (t_and2 (jJ rfl rfl rfl) (jJ (e_slice rfl rfl (e_bin (e_bin rfl rfl rfl) rfl rfl)) (e_slice rfl rfl rfl) rfl) rfl) (fun hb => ?_) (fun hb => ?_))))
          · obtain ⟨hz, hT⟩ := again_yes hs hW hb
            exact jE (kC (v := natsV [((a : Int) + e - b).toNat]) (e_list1 (e_bin (e_bin rfl rfl rfl) rfl (si (Int.toNat_of_nonneg hz).symm))) (jL (.mk _ _ _ _ hT)))
          · exact jL (.mk [] _ _ _ (again_no hs hW hb))
      · rw [if_neg hm] at hW
        exact g_t (σ₁ := ()) (t_orT (t_conv (t_not (t_chain rfl (e_sub (e_sub rfl rfl rfl) rfl rfl) (e_len rfl rfl) rfl rfl)) (congrArg (fun b => !b) (hch.trans (decide_eq_false hm))))) (jE (g_raise rfl (by show Ev _ _; rw [← hW]; rfl)))
    · have hE := It.isE h4 h01 h2 (of_decide_eq_false h7)
      exact kC (v := natsV (endsD text it a)) (e_c (jD (e_sub rfl rfl rfl) (jD rfl (jD rfl jX))) (fEnds_eq hE hg.1 c1 c2 hg.2.1 ())) (.mk (endsD text it a) _ _ _ ((way_E hg hE).symm.trans hW))
    · rintro ρ σ' ⟨ns, j9, j10, j11, hT⟩
      clear hW hg hlen h4 h01 h2 hFr
      generalize it.v = iv, kstr it.k = kv
      refine g_for (ns.map fun (n : Nat) => V.int n) (WL (.lst (iv :: rest.map It.v)) (.bytes text) (.int a) (heldV held) (.str kv) (.lst (rest.map It.v)) (natsV ns) j9 fun ns => tryD (fun e => wayD text rest e held) ns = W) (i_list rfl) (.mk _ _ _ _ rfl hT) ?_ ?_
      · rintro v l ρ σ' ⟨ns', _, d, e, hl, hT⟩ Q qq
        cases ns' with
        | nil => cases hl
        | cons z ns' =>
        cases hl
        have hT : (wayD text rest z held).bind _ = W := hT
        have hr := rec' z held
        cases hz : wayD text rest z held with
        | stuck => rw [hz] at hT; exact absurd hT.symm hs
        | err => rw [hz] at hT hr; exact g_setE (e_c (jD rfl (jD rfl (jD rfl (jD rfl jX)))) hr) (qq.err (by rw [← hT]; rfl))
        | ok o =>
          rw [hz] at hT hr
          refine kC (v := wayV o) (σ₁ := ()) (e_c (jD rfl (jD rfl (jD rfl (jD rfl jX)))) hr) ?_
          cases o with
          | none => exact g_f rfl (jL (qq.next _ _ (.mk ns' _ _ _ rfl hT)))
          | some x => exact g_t rfl (jE (jQ rfl (qq.ret _ _ _ (by rw [← hT]; rfl))))
      · rintro ρ σ' ⟨ns', _, d, e, hl, hT⟩
        cases ns' with
        | nil => rw [← hT]; exact jQ rfl rfl
        | cons z ns' => cases hl
  · exact absurd rfl h
end
end
section
variable {w : World} {G : Gd (KF w.params)} {γ : GM}
set_option maxHeartbeats 4000000
section
variable {Γ : Type} {γ : Γ}
theorem fs_way : ∀ k, FS PW w G RU 319 (k + 5) (fWay k ())
  | 0 => fs_law_way_step (n := 4) (Nat.le_refl 4) fs_stuck fun _ _ _ _ h => absurd h (Nat.not_lt_zero _)
  | k + 1 => fs_law_way_step (n := k + 5) (Nat.le_add_left 4 (k + 1)) (fs_way k) fun rest text a held h => by
    rw [fWay_eq, rWay, rWay]
    have h2 : rest.length ≤ k := Nat.le_of_lt_succ h
    by_cases h1 : rest.length ≤ 1000
    · simp only [h1, h2, and_true]
    · simp only [h1, and_false]
noncomputable def dueL (text : List UInt8) (its : List It) : List Nat → Res (Option (Nat × Nat × Held))
  | [] => .ok none
  | b :: bs => (wayD text its b []).bind fun o => o.elim (dueL text its bs) fun p => .ok (some (b, p.1, p.2))
noncomputable def heldVal (text : List UInt8) (p : Nat × Option Int) : V := p.2.elim .none fun e => if e < 0 then .int ((p.1 : Int) + 1) else .bytes (cut text (some p.1) (some e))
noncomputable def openL (h : Held) : Held := h.filter fun p => p.2.isNone
noncomputable def dueV1 (text : List UInt8) (b e : Nat) (h : Held) : V := if (openL h).isEmpty then .tup [.tup [.int b, .int e], .lst (if h.isEmpty then [.bytes (cut text (some b) (some e))] else h.map (heldVal text))] else .str (Str.ofString "refused")
noncomputable def dueV (text : List UInt8) (o : Option (Nat × Nat × Held)) : V := o.elim .none fun p => dueV1 text p.1 p.2.1 p.2.2
noncomputable def dueC (text : List UInt8) : Res (Option (Nat × Nat × Held)) → Res V
  | .ok o => .ok (dueV text o)
  | .err => .ok (.str (Str.ofString "refused"))
  | .stuck => .stuck
noncomputable def dueR (text pat : List UInt8) : Res V := (itemsF ((pat.drop (if atN pat 0 = 94 then 1 else 0)).length + 1) (pat.drop (if atN pat 0 = 94 then 1 else 0))).elim .stuck fun its => dueC text (dueL text its (List.range (if atN pat 0 = 94 then 1 else text.length + 1)))
noncomputable def bb {Sy : Type} (r : List UInt8 → List UInt8 → Sy → Res (V × Sy)) : List V → Sy → Res (V × Sy) := fun xs σ => onCons xs fun x l => onBytes x fun x => onCons l fun y l => onBytes y fun y => onNil l (r x y σ)
noncomputable def fDue {Γ : Type} (_ : Γ) : List V → Unit → Res (V × Unit) := bb fun text pat σ => if smallB text ∧ text.length ≤ 100 ∧ pat.length ≤ 60 then (dueR text pat).bind fun v => .ok (v, σ) else .stuck
noncomputable def dFilt {Γ : Type} : Γ → Dn Unit Bool := tcmpD (subD (jY 0) (eIntD 1)) eNoneD evIs
noncomputable def dHeld {Γ : Type} : Γ → Dn Unit V := ifexpD (tcmpD (subD (jY 1) (eIntD 1)) (eIntD 0) evLt) (binD (subD (jY 1) (eIntD 0)) (eIntD 1) evAdd) (sliceD (jY 0) (pSomeD (subD (jY 1) (eIntD 0))) (pSomeD (subD (jY 1) (eIntD 1))))
theorem itemsF_len (n : Nat) : ∀ (p : List UInt8) (its : List It), itemsF n p = some its → its.length ≤ p.length := by
  induction n with
  | zero => intro p its h; cases h
  | succ n ih =>
    intro p its h
    cases p with
    | nil => cases Option.some.inj h; exact Nat.le_refl _
    | cons c r =>
      obtain ⟨⟨it, z⟩, hi, h⟩ := Option.bind_eq_some_iff.mp h
      obtain ⟨its3, h3, rfl⟩ := Option.map_eq_some_iff.mp h
      have hp := itemD_pos (List.cons_ne_nil c r) hi
      have q := ih _ _ h3
      rw [List.length_drop] at q
      rw [List.length_cons]
      have q1 : its3.length ≤ (c :: r).length - z := q
      omega
theorem compD_due (h : Held) : compD (fun v => [] ++ [v]) (dFilt γ) (jY 0 γ) (h.map heldOne) () = .ok ((openL h).map heldOne, ()) := by
  induction h with
  | nil => rfl
  | cons p h ih =>
    show (dFilt γ [heldOne p] ()).bind _ = _
    rw [show dFilt γ [heldOne p] () = .ok (p.2.isNone, ()) from jJ (e_sub rfl rfl rfl) rfl (sb (isNone_optI p.2)), openL, List.filter_cons]
    cases p.2.isNone
    · exact ih
    · show (compD _ _ _ (h.map heldOne) ()).bind _ = _
      rw [ih]; rfl
theorem compD_held (text : List UInt8) (h : Held) : (∀ p ∈ h, p.2.isNone = false) → compD (fun v => [.bytes text] ++ [v]) (xNilD γ) (dHeld γ) (h.map heldOne) () = .ok (h.map (heldVal text), ()) := by
  induction h with
  | nil => exact fun _ => rfl
  | cons p h ih =>
    intro hh
    have h1 := hh p (.head _)
    obtain ⟨b, e⟩ := p
    cases e with
    | none => cases h1
    | some e =>
    show (dHeld γ [.bytes text, heldOne (b, some e)] ()).bind _ = _
    have e1 : dHeld γ [.bytes text, heldOne (b, some e)] () = .ok (heldVal text (b, some e), ()) := by
      show _ = Res.ok ((if e < 0 then V.int ((b : Int) + 1) else .bytes (cut text (some b) (some e))), ())
      by_cases he : e < 0
      · rw [if_pos he]; exact e_ifT (jJ (e_sub rfl rfl rfl) rfl (sbT he)) (e_bin (e_sub rfl rfl rfl) rfl rfl)
      · rw [if_neg he]; exact e_ifF (jJ (e_sub rfl rfl rfl) rfl (sbF he)) (e_slice rfl (e_sub rfl rfl rfl) (e_sub rfl rfl rfl))
    rw [e1]
    show (compD _ _ _ (h.map heldOne) ()).bind _ = _
    rw [ih fun p hp => hh p (.tail _ hp)]; rfl
theorem tryD_some {α : Type} {f : Nat → Res (Option α)} {x : α} (ns : List Nat) : tryD f ns = .ok (some x) → ∃ n, f n = .ok (some x) := by
  induction ns with
  | nil => intro h; cases h
  | cons n ns ih =>
    intro h
    obtain ⟨o, h1, h2⟩ := Res.bind_eq_ok h
    cases o with
    | some y => cases h2; exact ⟨n, h1⟩
    | none => exact ih h2
theorem wayD_len {text : List UInt8} {e : Nat} {h : Held} (its : List It) : ∀ a held, wayD text its a held = .ok (some (e, h)) → held.length ≤ 101 → h.length ≤ 101 := by
  induction its with
  | nil => intro a held hw hl; cases hw; exact hl
  | cons it rest ih =>
    intro a held hw hl
    have hg : it.good = true ∧ a ≤ text.length ∧ held.length ≤ 100 := Decidable.byContradiction fun z => by
      have q : wayD text (it :: rest) a held = .stuck := by cases it <;> exact if_neg z
      rw [q] at hw; cases hw
    cases it with
    | bad => have hw : Res.err = _ := (if_pos hg).symm.trans hw; cases hw
    | open_ => exact ih _ _ ((if_pos hg).symm.trans hw) (by rw [List.length_append]; exact Nat.succ_le_succ hg.2.2)
    | place => exact ih _ _ ((if_pos hg).symm.trans hw) (by rw [List.length_append]; exact Nat.succ_le_succ hg.2.2)
    | close =>
      have hw : ((waitL held).getLast?.elim .err fun i => wayD text rest a (held.set i ((held.getD i (0, none)).1, some a))) = _ := (if_pos hg).symm.trans hw
      cases hq : (waitL held).getLast? with
      | none => rw [hq] at hw; cases hw
      | some i => rw [hq] at hw; exact ih _ _ hw (by rw [List.length_set]; exact hl)
    | again n =>
      have hw : (if 0 ≤ n ∧ n < held.length then (held.getD n.toNat (0, none)).2.elim .err fun e => againW text (fun z => wayD text rest z held) a (held.getD n.toNat (0, none)).1 e else .err) = _ := (if_pos hg).symm.trans hw
      split at hw
      · cases hq : (held.getD n.toNat (0, none)).2 with
        | none => rw [hq] at hw; cases hw
        | some e =>
          rw [hq] at hw
          have hw : againW text (fun z => wayD text rest z held) a (held.getD n.toNat (0, none)).1 e = _ := hw
          rw [againW] at hw
          split at hw
          · split at hw
            · split at hw
              · exact ih _ _ hw hl
              · cases hw
            · cases hw
          · cases hw
      · cases hw
    | _ => obtain ⟨n, h3⟩ := tryD_some _ ((if_pos hg).symm.trans hw); exact ih _ _ h3 hl
theorem e_comp {S : Type} {Fi : Γ → Dn S (List V)} {Ft : Γ → Dn S Bool} {Fe : Γ → Dn S V} {cn : List (Str × Nat)} {ρ us l r : List V} {σ : S} (hu : getvs ρ (cn.map (·.2)) = .ok us) (hi : Fi γ ρ σ = .ok (l, σ)) (hl : l.length ≤ 4096) (hc : compD (fun v => us ++ [v]) (Ft γ) (Fe γ) l σ = .ok (r, σ)) : eCompD Fi Ft Fe cn γ ρ σ = .ok (.lst r, σ) := by
  rw [eCompD_ap, hu, Res.bind_ok, hi, Res.bind_ok, if_pos hl, hc]; rfl
theorem g_comp {S : Type} {P : Res ((Out × List V) × S) → Prop} {K : Γ → Dn S (Out × List V)} {Fi : Γ → Dn S (List V)} {Ft : Γ → Dn S Bool} {Fe : Γ → Dn S V} {cn : List (Str × Nat)} {ρ us l r : List V} {σ : S} {i : Nat} (hu : getvs ρ (cn.map (·.2)) = .ok us) (hi : Fi γ ρ σ = .ok (l, σ)) (hl : l.length ≤ 4096) (hc : compD (fun v => us ++ [v]) (Ft γ) (Fe γ) l σ = .ok (r, σ)) (a : P (K γ (ρ.set i (.lst r)) σ)) : P (jO (sCompD Fi Ft Fe i cn) K γ ρ σ) := by
  rw [bConsD_ap, sCompD_ap, hu, Res.bind_ok, hi, Res.bind_ok, if_pos hl, hc]; exact a
theorem openL_nil {h : Held} (e : openL h = []) (p : Nat × Option Int) (hp : p ∈ h) : p.2.isNone = false := by
  cases hq : p.2.isNone with
  | false => rfl
  | true =>
    have q : p ∈ openL h := List.mem_filter.mpr ⟨hp, hq⟩
    rw [e] at q; cases q
noncomputable def ET {S : Type} (t : Str) (k : List V → S → Res V) (s : Res V) (X : Res ((Out × List V) × S)) : Prop := caughtD t k X = s
theorem gw_set {S : Type} {Q : Res V → Prop} {F : Γ → Dn S V} {Fs : Γ → List V → S → Res V} {ρ : List V} {σ σ₁ : S} {v : V} {i : Nat} (h : F γ ρ σ = .ok (v, σ₁)) (a : Q (Fs γ (ρ.set i v) σ₁)) : Q (w_consD (sSetD F i) Fs γ ρ σ) := by
  show Q (((F γ ρ σ).bind _).bind _); rw [h]; exact a
theorem fs_law_due : FS PW w G RU 324 (65 + 1) (fDue ()) := by
  have M := mOk w.params
  refine fs_ofW ["text", "pattern", "is_bound", "items", "begin", "found", "held"] 2 rfl rfl ⟨by decide +kernel, rfl, by decide +kernel⟩ (fun hF => (w_cons (γ := ()) (sSet 2 hF (cmp_ jR (slice_ (jA 1 hF) pNone (pSome jG)) (jZ (by decide)) rfl)) (w_cons (sSet 3 hF (eC fs_law_items (jC (slice_ (jA 1 hF) (pSome (eInt1 (jC (jA 2 hF) jK))) pNone) jK))) (w_try M.O (jB (sFor 4 hF (iRange rfl rfl rfl (jC (ifexp_ (tOf (jA 2 hF)) jG (kD jP (eLen (jC (jA 0 hF) jK)) jG)) jK) rfl (by decide +kernel)) (jB (sSet 5 hF (eC (fs_way 60) (jC (jA 3 hF) (jC (jA 0 hF) (jC (jA 4 hF) (jC (list_ jK) jK)))))) (jB (sIf (jI op_isnot (jA 5 hF) eNone rfl) (jB (sIf (jI op_neL (eComp (Ft := dFilt) (Fe := jY 0) [] ⟨by decide +kernel, rfl, by decide +kernel, by decide +kernel, by decide +kernel, by decide +kernel⟩ (iList (sub_ (jA 5 hF) jG)) (fun D vs => xOne (jI op_is (sub_ (jA 0 ⟨by decide +kernel, rfl, by decide +kernel⟩) jG) eNone rfl)) (fun D vs => jA 0 ⟨by decide +kernel, rfl, by decide +kernel⟩)) (list_ jK) rfl) (jB (sRet eStr) jF) jF) (jB (sComp (Ft := xNilD) (Fe := dHeld) 6 [("text", 0)] hF ⟨by decide +kernel, rfl, by decide +kernel, by decide +kernel, by decide +kernel, by decide +kernel⟩ (iList (sub_ (jA 5 hF) jG)) (fun D vs => xNil) (fun D vs => ifexp_ (jI op_lt (sub_ (jA 1 ⟨by decide +kernel, rfl, by decide +kernel⟩) jG) jG rfl) (kD jP (sub_ (jA 1 ⟨by decide +kernel, rfl, by decide +kernel⟩) jG) jG) (slice_ (jA 0 ⟨by decide +kernel, rfl, by decide +kernel⟩) (pSome (sub_ (jA 1 ⟨by decide +kernel, rfl, by decide +kernel⟩) jG)) (pSome (sub_ (jA 1 ⟨by decide +kernel, rfl, by decide +kernel⟩) jG))))) (jB (sRet (tuple_ (jC (tuple_ (jC (jA 4 hF) (jC (sub_ (jA 5 hF) jG) jK))) (jC (ifexp_ (jI op_neL (jA 6 hF) (list_ jK) rfl) (jA 6 hF) (list_ (jC (slice_ (jA 0 hF) (pSome (jA 4 hF)) (pSome (sub_ (jA 5 hF) jG))) jK))) jK)))) jF))) jF) jF))) jF) (w_of_B (jB (sRet eNone) jF)))))) (args2 fun _ _ => rfl) (kindCell (by decide +kernel) (fun _ => rfl) (kindLoc (by decide +kernel))) (by decide) rfl rfl fun xs hS => ?_
  obtain ⟨_, _, rfl, h1⟩ := jN hS
  obtain ⟨text, rfl, h2⟩ := onBytes_ne h1
  obtain ⟨_, _, rfl, h3⟩ := jN h2
  obtain ⟨pat, rfl, h4⟩ := onBytes_ne h3
  obtain ⟨rfl, h5⟩ := onNil_ne h4
  clear h1 h2 h3 h4 hS
  refine ⟨rfl, ?_⟩
  show _ = (if smallB text ∧ text.length ≤ 100 ∧ pat.length ≤ 60 then (dueR text pat).bind fun v => .ok (v, ()) else .stuck)
  have h5 : (if smallB text ∧ text.length ≤ 100 ∧ pat.length ≤ 60 then (dueR text pat).bind fun v => Res.ok (v, ()) else .stuck) ≠ .stuck := h5
  split at h5
  · rename_i hz
    rw [if_pos hz]
    refine congrArg (fun r : Res V => r.bind fun v => .ok (v, ())) ?_
    have h5 : dueR text pat ≠ .stuck := fun e => h5 (by rw [e]; rfl)
    have hb : ∃ b : Bool, decide (atN pat 0 = 94) = b ∧ (if atN pat 0 = 94 then 1 else 0) = (if b then 1 else 0) ∧ (if atN pat 0 = 94 then 1 else text.length + 1) = (if b then 1 else text.length + 1) := by
      by_cases h : atN pat 0 = 94
      · exact ⟨true, decide_eq_true h, by rw [if_pos h]; rfl, by rw [if_pos h]; rfl⟩
      · exact ⟨false, decide_eq_false h, by rw [if_neg h]; rfl, by rw [if_neg h]; rfl⟩
    obtain ⟨b, hb1, hb2, hb3⟩ := hb
    rw [dueR, hb2, hb3] at h5 ⊢
    cases hi : itemsF ((pat.drop (if b then 1 else 0)).length + 1) (pat.drop (if b then 1 else 0)) with
    | none => rw [hi] at h5; exact absurd rfl h5
    | some its =>
    rw [hi] at h5
    have h5 : dueC text (dueL text its (List.range (if b then 1 else text.length + 1))) ≠ .stuck := h5
    show _ = dueC text (dueL text its (List.range (if b then 1 else text.length + 1)))
    have hil := itemsF_len _ _ _ hi
    have hdl : (pat.drop (if b then 1 else 0)).length ≤ 60 := by rw [List.length_drop]; exact Nat.le_trans (Nat.sub_le _ _) hz.2.2
    have hitems : fItems () [.bytes (pat.drop (if b then 1 else 0))] () = .ok (.lst (its.map It.v), ()) := by
      show (itemsRL _).bind _ = _
      rw [itemsRL, if_pos (Nat.le_trans hdl (by decide)), hi]; rfl
    have hway : ∀ n : Nat, fWay 60 () [.lst (its.map It.v), .bytes text, .int n, .lst []] () = wayR (wayD text its n []) := fun n =>
      (fWay_eq (k := 60) its text n [] ()).trans (if_pos ⟨hz.1, Nat.le_trans hz.2.1 (Nat.le_of_ble_eq_true rfl), Nat.le_trans hil hdl, Nat.le_trans (Nat.le_trans hil hdl) (Nat.le_of_ble_eq_true rfl)⟩)
    generalize hR : dueL text its (List.range (if b then 1 else text.length + 1)) = R at h5 ⊢
    have hs : R ≠ .stuck := fun e => h5 (by rw [e]; rfl)
    refine gw_set (Q := fun X => X = dueC text R) (v := .bool b) (e_cmp (e_sliceT rfl rfl) rfl (sb ((dec_cut0 pat (by decide)).trans hb1))) ?_
    refine gw_set (Q := fun X => X = dueC text R) (e_c (jD (e_sliceD rfl (e_bint rfl)) jX) (by rw [cutFrom pat (if b then 1 else 0) (by cases b <;> rfl)]; exact hitems)) ?_
    have hev : evRange [.int (if b then 1 else (text.length : Int) + 1)] = some ((List.range (if b then 1 else text.length + 1)).map fun (n : Nat) => V.int n) := by
      have e : (if b then 1 else (text.length : Int) + 1) = (((if b then 1 else text.length + 1) : Nat) : Int) := by cases b <;> rfl
      have hz2 := hz.2.1
      rw [e, evRange1 (by show (if b then 1 else text.length + 1) ≤ 5000; split <;> omega), rangeL]
      refine congrArg some ?_
      rw [show (((if b then 1 else text.length + 1 : Nat) : Int) - 0).toNat = (if b then 1 else text.length + 1) by omega]
      apply List.map_congr_left; intro j _; exact congrArg V.int (Int.zero_add _)
    show ET _ _ (dueC text R) _
    refine g_for ((List.range (if b then 1 else text.length + 1)).map fun (n : Nat) => V.int n) (fun l ρ _ => ∃ (ns : List Nat) (d e : V), ρ = [.bytes text, .bytes pat, .bool b, .lst (its.map It.v), d, e, .undef] ∧ l = ns.map (fun (n : Nat) => V.int n) ∧ dueL text its ns = R) (σ₁ := ()) ?_ ⟨_, _, _, rfl, rfl, hR⟩ ?_ ?_
    · show (jM _ _ () _ _).bind _ = _
      rw [jD (x := .int (if b then 1 else (text.length : Int) + 1)) (σ₁ := ()) (by cases b; exact e_ifF (t_of rfl) (e_bin (e_len rfl rfl) rfl rfl); exact e_ifT (t_of rfl) rfl) jX]
      show (jV (evRange _)).bind _ = _
      rw [hev]; rfl
    · rintro v l ρ σ' ⟨ns, d, e, rfl, hl, hT⟩ Q qq
      cases ns with
      | nil => cases hl
      | cons z ns =>
      cases hl
      have hT : (wayD text its z []).bind _ = R := hT
      have hr := hway z
      cases hw : wayD text its z [] with
      | stuck => rw [hw] at hT; exact absurd hT.symm hs
      | err => rw [hw] at hT hr; exact g_setE (e_c (jD rfl (jD rfl (jD rfl (jD rfl jX)))) hr) (qq.err (by rw [← hT]; rfl))
      | ok o =>
        rw [hw] at hT hr
        refine kC (v := wayV o) (σ₁ := ()) (e_c (jD rfl (jD rfl (jD rfl (jD rfl jX)))) hr) ?_
        cases o with
        | none => exact g_f rfl (jL (qq.next _ _ ⟨ns, _, _, rfl, rfl, hT⟩))
        | some p =>
          obtain ⟨en, h⟩ := p
          have hT : Res.ok (some (z, en, h)) = R := hT
          have hlen : (h.map heldOne).length ≤ 4096 := by rw [List.length_map]; exact Nat.le_trans (wayD_len _ _ _ hw (Nat.zero_le _)) (Nat.le_of_ble_eq_true rfl)
          refine g_t rfl (jE ?_)
          have C1 := fun ρ (e : ρ = [.bytes text, .bytes pat, .bool b, .lst (its.map It.v), .int z, .tup [.int en, heldV h], .undef]) => e_comp (γ := ()) (Fi := iListD (subD (jY 5) (eIntD 1))) (Ft := dFilt) (Fe := jY 0) (cn := []) (ρ := ρ) (σ := ()) rfl (by subst e; exact i_list (e_sub rfl rfl rfl)) hlen (compD_due h)
          cases ho : openL h with
          | cons p ps =>
            refine g_t (jJ (C1 _ rfl) rfl (by rw [ho]; rfl)) (jE (jQ rfl (qq.ret _ _ _ ?_)))
            rw [← hT]
            show Res.ok _ = Res.ok (dueV1 text z en h)
            rw [dueV1, ho]; rfl
          | nil =>
            refine g_f (jJ (C1 _ rfl) rfl (by rw [ho]; rfl)) (jL (jE (g_comp rfl (i_list (e_sub rfl rfl rfl)) hlen (compD_held text h (openL_nil ho)) (jE ?_))))
            cases h with
            | nil =>
              refine jQ (e_tup2 (e_tup2 rfl (e_sub rfl rfl rfl)) (e_ifF rfl (e_list1 (e_slice rfl rfl (e_sub rfl rfl rfl))))) (qq.ret _ _ _ ?_)
              rw [← hT]; rfl
            | cons p ps =>
              refine jQ (e_tup2 (e_tup2 rfl (e_sub rfl rfl rfl)) (e_ifT rfl rfl)) (qq.ret _ _ _ ?_)
              rw [← hT]
              show Res.ok _ = Res.ok (dueV1 text z en (p :: ps))
              rw [dueV1, ho]; rfl
    · rintro ρ σ' ⟨ns, d, e, rfl, hl, hT⟩
      cases ns with
      | nil => rw [← hT]; rfl
      | cons z ns => cases hl
  · exact absurd rfl h5
end
end
noncomputable def ents0 (P : Params) (mc : MC) (X : List Addr) (t : Nat → Tok) (k : Nat) : List DictEntry := (mEnts P mc (⟨0, 0, [], []⟩, ⟨X.getD 0 0, X.getD 1 0⟩) t).take k
structure IRep (P : Params) (g : Heap) (mc : MC) (τ : Nat × List Addr) (h : Heap) : Prop where
  inst : h.get? mc.x = some (instObj 253 mc.dx)
  dict : ∃ t n, h.get? mc.dx = some (dictOf (ents0 P mc τ.2 t τ.1) n)
  ls : ∀ a ∈ τ.2, h.IsList a ([] : List Value).toArray ∧ g.get? a = none
  nd : τ.2.Nodup
  len : τ.2.length = τ.1 - 6
  nx : g.get? mc.x = none
  ndx : g.get? mc.dx = none
  ztext : mc.text.length ≤ 4096
  zpat : mc.pat.length ≤ 4096
@[reducible] noncomputable def RI (P : Params) (g : Heap) (mc : MC) : StRep Nat where
  X := List Addr
  rep := IRep P g mc
  foot := fun τ => mc.x :: mc.dx :: τ.2
  stable := fun {σ h h'} r k => by
    obtain ⟨a1, ⟨t, n, a2⟩, a3, a4, a5, a6, a7, a8, a9⟩ := r
    exact ⟨k _ _ a1 (.inl (.head _)), ⟨t, n, k _ _ a2 (.inl (.tail _ (.head _)))⟩, fun a ha => (let ⟨⟨o, ho, r⟩, z⟩ := a3 a ha; ⟨⟨o, k _ _ ho (.inl (.tail _ (.tail _ ha))), r⟩, z⟩), a4, a5, a6, a7, a8, a9⟩
  live := fun {σ h} r a ha => by
    obtain ⟨a1, ⟨t, n, a2⟩, a3, _⟩ := r
    rcases List.mem_cons.mp ha with rfl | ha
    · rw [a1]; intro z; cases z
    · rcases List.mem_cons.mp ha with rfl | ha
      · rw [a2]; intro z; cases z
      · obtain ⟨⟨o, ho, _⟩, _⟩ := a3 a ha
        rw [ho]; intro z; cases z
section
variable {prog : Program} {w : World} {KK : Frag} {G : Gd KK} {mc : MC} {f : Fn} {n : Nat}
noncomputable abbrev RIw (w : World) (G : Gd KK) (mc : MC) : StRep Nat := RI w.params G.g mc
theorem iStore {L : Addr} {cl : Cx} {A : Around} {outer : List Env} {s : Shared} {h₁ : Heap} {ρ : List V} {k : Nat} {X news : List Addr} {name : Str} {v : Value} {Q : Unit → Shared → Prop} {E : Value → Shared → Prop} (C : ClsOk KK) (hC : f.isC = false)
    (W : Wf G (RIw w G mc) (f.env L cl) f.vars outer h₁ ρ (k, X)) (st : h₁.StaysIn s.heap) (ht : takerIn KK 253 name = some none)
    (hk : k < 8) (hget : ∀ t, (getL name (ents0 w.params mc X t k)).isSome = true) (hput : ∀ t tk, ∃ t', putL name (PyData.keyHash w.params name) (.str name tk) v (ents0 w.params mc X t k) = ents0 w.params mc (X ++ news) t' (k + 1))
    (hl : ∀ a ∈ news, s.heap.IsList a ([] : List Value).toArray ∧ h₁.get? a = none) (hnd : news.Nodup) (hnl : (X ++ news).length = k + 1 - 6)
    (h : ∀ h' tk, Wf G (RIw w G mc) (f.env L cl) f.vars outer h' ρ (k + 1, X ++ news) → Stp (RIw w G mc) [L] h₁ (k, X) h' (k + 1, X ++ news) → Q () { s with heap := h', toks := tk }) : wpAny (model prog w) A (setAttr (.ref mc.x) name v) Q E s := by
  have R := W.cal.rep
  obtain ⟨t, nn, ed⟩ := R.dict
  obtain ⟨t', hput⟩ := hput t (s.toks + 1)
  refine dStore C hC W st ht R.inst ed (.head _) (.tail _ (.head _)) R.ndx (hget t) hput (Nat.le_trans (List.length_take_le' _ _) (Nat.le_of_ble_eq_true rfl)) (fun b hb => ?_) (fun h' ix ed' lk => ⟨ix, ⟨_, ed'⟩, fun a ha => ?_, List.nodup_append.mpr ⟨R.nd, hnd, fun a ha b hb e => ?_⟩, hnl, R.nx, R.ndx, R.ztext, R.zpat⟩) h
  · cases hb with
    | head => exact .inl (.head _)
    | tail _ hb =>
    cases hb with
    | head => exact .inl (.tail _ (.head _))
    | tail _ hb => exact (List.mem_append.mp hb).elim (fun hb => .inl (.tail _ (.tail _ hb))) fun hb => .inr (hl b hb).2
  · rcases List.mem_append.mp ha with ha | ha
    · obtain ⟨⟨o, ho, r⟩, z⟩ := R.ls a ha
      exact ⟨lk _ _ ⟨o, st _ _ ho, r⟩, z⟩
    · exact ⟨lk _ _ (hl a ha).1, base_none W.cal (hl a ha).2⟩
  · obtain ⟨⟨o, ho, _⟩, _⟩ := R.ls a ha
    rw [e, (hl b hb).2] at ho; cases ho
noncomputable def sameV (a : V) : V → Bool
  | .bytes b => a.bytes? == some b
  | .int b => a.int? == some b
  | .none => isNone a
  | _ => false
theorem V.of_none {x : V} (e : isNone x = true) : x = .none := by cases x <;> cases e; rfl
theorem sameV_eq {a b : V} (h : sameV a b = true) : a = b := by
  cases b with
  | bytes b => exact V.of_bytes (eq_of_beq h)
  | int b => exact V.of_int (eq_of_beq h)
  | none => exact V.of_none h
  | _ => exact nomatch h
@[simp] theorem sameV_bytes (a : List UInt8) : sameV (.bytes a) (.bytes a) = true := beq_self_eq_true _
noncomputable def expV (mc : MC) : Nat → V
  | 0 => .bytes mc.text
  | 1 => .bytes mc.pat
  | 2 => .int 60
  | 3 => .none
  | _ => .int 0
noncomputable def expN : Nat → Str
  | 0 => Str.ofString "text"
  | 1 => Str.ofString "pattern"
  | 2 => Str.ofString "most_depth"
  | 3 => Str.ofString "tick"
  | 4 => Str.ofString "depth"
  | 5 => Str.ofString "level"
  | 6 => Str.ofString "starts"
  | _ => Str.ofString "lengths"
theorem exp_get (P : Params) (mc : MC) (X : List Addr) (t : Nat → Tok) : ∀ k, k < 8 → (getL (expN k) (ents0 P mc X t k)).isSome = true
  | 0, _ => rfl
  | 1, _ => rfl
  | 2, _ => rfl
  | 3, _ => rfl
  | 4, _ => rfl
  | 5, _ => rfl
  | 6, _ => rfl
  | 7, _ => rfl
  | k + 8, h => absurd h (Nat.not_lt.mpr (Nat.le_add_left _ _))
theorem exp_put (P : Params) (mc : MC) (X : List Addr) (t : Nat → Tok) (tk : Tok) {Y : List Addr} {h : Heap} {v : Value} : ∀ k, k < 6 → Rep Y h v (expV mc k) → ∃ t', putL (expN k) (PyData.keyHash P (expN k)) (.str (expN k) tk) v (ents0 P mc X t k) = ents0 P mc (X ++ []) t' (k + 1)
  | 0, _, r => by obtain ⟨u, rfl, _⟩ := r.bytes? rfl; rw [List.append_nil]; exact ⟨fun j => if j = 0 then tk else if j = 1 then u else t j, rfl⟩
  | 1, _, r => by obtain ⟨u, rfl, _⟩ := r.bytes? rfl; rw [List.append_nil]; exact ⟨fun j => if j = 2 then tk else if j = 3 then u else t j, rfl⟩
  | 2, _, r => by obtain ⟨u, rfl⟩ := r.int? rfl; rw [List.append_nil]; exact ⟨fun j => if j = 4 then tk else if j = 5 then u else t j, rfl⟩
  | 3, _, r => by cases r.none_inv; rw [List.append_nil]; exact ⟨fun j => if j = 6 then tk else t j, rfl⟩
  | 4, _, r => by obtain ⟨u, rfl⟩ := r.int? rfl; rw [List.append_nil]; exact ⟨fun j => if j = 7 then tk else if j = 8 then u else t j, rfl⟩
  | 5, _, r => by obtain ⟨u, rfl⟩ := r.int? rfl; rw [List.append_nil]; exact ⟨fun j => if j = 9 then tk else if j = 10 then u else t j, rfl⟩
  | k + 6, h, _ => absurd h (Nat.not_lt.mpr (Nat.le_add_left _ _))
theorem ini_len0 {X : List Addr} {k : Nat} (hk : k < 6) (h : X.length = k - 6) : (X ++ []).length = k + 1 - 6 := by
  rw [List.append_nil, h, Nat.sub_eq_zero_of_le (Nat.le_of_lt hk), Nat.sub_eq_zero_of_le hk]
noncomputable def sIniD (F : MC → Dn Nat V) (k : Nat) : MC → Dn Nat (Out × List V) := fun mc ρ σ => (F mc ρ σ).bind fun p => (getv ρ 0).bind fun u => if isSelf mc u = true ∧ p.2 = k ∧ sameV p.1 (expV mc k) = true then .ok ((.next, ρ), k + 1) else .stuck
theorem sIni {xp pos pos' : Pos} {e : Expr} {nm : Str} {F : MC → Dn Nat V} (k : Nat) (hk : k < 6) (hF : FOk f) (C : ClsOk KK) (hx : jW prog w G (RIw w G mc) f n e (F mc)) (ht : takerIn KK 253 (expN k) = some none) (hnm : nm = expN k) (hi : f.vars[0]? = some jH := by rfl)
    (hsw : ∀ env, swapsWith e (some (.Attribute (.Name jH xp) nm pos')) pos.line env = pure false := by intro; rfl) (hC : f.isC = false := by rfl) :
    SndS prog w G (RIw w G mc) f n (.Assign [.Attribute (.Name jH xp) nm pos'] e pos) (sIniD F k mc) := SndG.mk fun L cl A outer s ρ σ Q E hA W K => by
  subst hnm
  have K : KontS G (RIw w G mc) f L cl outer s.heap σ s ((F mc ρ σ.1).bind fun p => (getv ρ 0).bind fun u => if isSelf mc u = true ∧ p.2 = k ∧ sameV p.1 (expV mc k) = true then .ok ((.next, ρ), k + 1) else .stuck) Q E := K
  refine plainObj_wpAny_Assign_Attribute (hx.runS hA W W .refl K fun v σ₁ vv h₁ tk₁ e₁ W₁ _ S₁ r₁ K₁ => ?_) (hsw _)
  obtain ⟨u, hg, e3⟩ := getv_ne K₁.ns
  replace K₁ := K₁.to e3
  obtain ⟨⟨c1, c2, c3⟩, e4⟩ := ite_ne K₁.ns
  replace K₁ := K₁.to e4
  clear e3 e4
  cases isSelf_eq c1
  cases sameV_eq c3
  obtain ⟨k', X⟩ := σ₁
  cases (show k' = k from c2)
  refine local_ (s := ⟨_, _, _, _, _⟩) hF hi W₁ hg fun uu ru => ?_
  cases ru.inj_ref
  exact iStore (s := ⟨_, _, _, _, _⟩) (news := []) C hC W₁ (StaysIn.refl _) ht (Nat.lt_of_lt_of_le hk (Nat.le_add_right 6 2)) (fun t => exp_get _ _ _ _ _ (Nat.lt_of_lt_of_le hk (Nat.le_add_right 6 2))) (fun t tk => exp_put _ _ _ _ _ _ hk r₁) (fun a ha => nomatch ha) .nil (ini_len0 hk W₁.cal.rep.len) fun h' tk W₂ S₂ => K₁.ok .next _ _ .next _ _ rfl W₂ (S₁.trans W₁ S₂) trivial
theorem exp_put6 (P : Params) (mc : MC) (t : Nat → Tok) (tk : Tok) (D : Addr) : ∃ t', putL (expN 6) (PyData.keyHash P (expN 6)) (.str (expN 6) tk) (.ref D) (ents0 P mc [] t 6) = ents0 P mc ([] ++ [D]) t' 7 := ⟨fun j => if j = 11 then tk else t j, rfl⟩
theorem exp_put7 (P : Params) (mc : MC) (t : Nat → Tok) (tk : Tok) (B D : Addr) : ∃ t', putL (expN 7) (PyData.keyHash P (expN 7)) (.str (expN 7) tk) (.ref D) (ents0 P mc [B] t 7) = ents0 P mc ([B] ++ [D]) t' 8 := ⟨fun j => if j = 12 then tk else t j, rfl⟩
theorem iniL_lt {k : Nat} (hk : k = 6 ∨ k = 7) : k < 8 := by rcases hk with rfl | rfl <;> decide
theorem iniL_len {X : List Addr} {k : Nat} {D : Addr} (hk : k = 6 ∨ k = 7) (h : X.length = k - 6) : (X ++ [D]).length = k + 1 - 6 := by
  rw [List.length_append, h]; rcases hk with rfl | rfl <;> rfl
theorem exp_putL {P : Params} {mc : MC} {X : List Addr} {t : Nat → Tok} {tk : Tok} {D : Addr} {k : Nat} (hk : k = 6 ∨ k = 7) (h : X.length = k - 6) : ∃ t', putL (expN k) (PyData.keyHash P (expN k)) (.str (expN k) tk) (.ref D) (ents0 P mc X t k) = ents0 P mc (X ++ [D]) t' (k + 1) := by
  rcases hk with rfl | rfl
  · cases List.length_eq_zero_iff.mp h; exact exp_put6 _ _ _ _ _
  · obtain ⟨B, rfl⟩ := List.length_eq_one_iff.mp h; exact exp_put7 _ _ _ _ _ _
noncomputable def sIniLD (k : Nat) : MC → Dn Nat (Out × List V) := fun mc ρ σ => (getv ρ 0).bind fun u => if isSelf mc u = true ∧ σ = k then .ok ((.next, ρ), k + 1) else .stuck
theorem sIniL {xp pos pos' lp : Pos} {nm : Str} (k : Nat) (hk : k = 6 ∨ k = 7) (hF : FOk f) (C : ClsOk KK) (ht : takerIn KK 253 (expN k) = some none) (hnm : nm = expN k) (hi : f.vars[0]? = some jH := by rfl)
    (hsw : ∀ env, swapsWith (.List [] lp) (some (.Attribute (.Name jH xp) nm pos')) pos.line env = pure false := by intro; rfl) (hC : f.isC = false := by rfl) :
    SndS prog w G (RIw w G mc) f n (.Assign [.Attribute (.Name jH xp) nm pos'] (.List [] lp) pos) (sIniLD k mc) := SndG.mk fun L cl A outer s ρ σ Q E hA W K => by
  have K : KontS G (RIw w G mc) f L cl outer s.heap σ s ((getv ρ 0).bind fun u => if isSelf mc u = true ∧ σ.1 = k then .ok ((.next, ρ), k + 1) else .stuck) Q E := K
  subst hnm
  obtain ⟨u, hg, e3⟩ := getv_ne K.ns
  replace K := K.to e3
  obtain ⟨⟨c1, c2⟩, e4⟩ := ite_ne K.ns
  replace K := K.to e4
  clear e3 e4
  cases isSelf_eq c1
  obtain ⟨k', X⟩ := σ
  cases (show k' = k from c2)
  refine plainObj_wpAny_Assign_Attribute (List_ (spliced_nil (wpAny_newList ?_ (by rw [sizeLine_eq]; exact Nat.le_of_ble_eq_true rfl)))) (hsw _)
  have st := StaysIn.push s.heap { cls := .type "list", data := .seq ([] : List Value).toArray }
  refine local_ (s := ⟨_, _, _, _, _⟩) hF hi (W.stays st) hg fun uu ru => ?_
  cases ru.inj_ref
  have hlen : X.length = k - 6 := W.cal.rep.len
  refine iStore (s := ⟨_, _, _, _, _⟩) (news := [s.heap.objs.size]) C hC W st ht (iniL_lt hk) (fun t => exp_get _ _ _ _ _ (iniL_lt hk)) (fun t tk => exp_putL hk hlen) (fun a ha => ?_) (List.pairwise_singleton _ _) (iniL_len hk hlen) fun h' tk W₂ S₂ => K.ok .next _ _ .next _ _ rfl W₂ S₂ trivial
  rcases List.mem_singleton.mp ha with rfl
  refine ⟨⟨_, Heap.get?_push_size _ rfl, rfl, 0, rfl⟩, ?_⟩
  cases q : s.heap.get? s.heap.objs.size with
  | none => rfl
  | some o => exact absurd (Heap.lt_size q) (Nat.lt_irrefl _)
section
variable {mc : MC} {P : Res ((Out × List V) × Nat) → Prop} {F : MC → Dn Nat V} {K : MC → Dn Nat (Out × List V)} {ρ : List V} {k : Nat} {v : V}
theorem g_ini (hF : F mc (.ref mc.x :: ρ) k = .ok (v, k)) (hs : sameV v (expV mc k) = true) (a : P (K mc (.ref mc.x :: ρ) (k + 1))) : P (jO (sIniD F k) K mc (.ref mc.x :: ρ) k) := by
  show P (((F mc _ _).bind _).bind _); rw [hF]; show P ((if isSelf mc (.ref mc.x) = true ∧ k = k ∧ sameV v (expV mc k) = true then _ else _ : Res ((Out × List V) × Nat)).bind _); rw [if_pos ⟨isSelf_ref mc, rfl, hs⟩]; exact a
theorem g_iniL (a : P (K mc (.ref mc.x :: ρ) (k + 1))) : P (jO (sIniLD k) K mc (.ref mc.x :: ρ) k) := by
  show P ((if isSelf mc (.ref mc.x) = true ∧ k = k then _ else _ : Res ((Out × List V) × Nat)).bind _); rw [if_pos ⟨isSelf_ref mc, rfl⟩]; exact a
end
end
section
variable {prog : Program} {w : World} {KK : Frag} {G : Gd KK} {n : Nat}
theorem AOk.made {A : Around} {l : List Env} {C : Addr} {vs : List Value} {n : Nat} (a : AOk A l (n + 1)) : AOk (A.under (.builtin "type.__call__" ⟨.ref C :: vs, []⟩)) l n := by
  have hw : (Code.builtin "type.__call__" ⟨.ref C :: vs, []⟩).weight = 1 := rfl
  have hu : (Code.builtin "type.__call__" ⟨.ref C :: vs, []⟩).cUnits ≤ 3 := by
    show (Code.builtin "type.__call__" ⟨[], []⟩).cUnits ≤ 3
    decide +kernel
  refine ⟨?_, a.handled, ?_, ?_⟩
  · show pushEnvs (Code.builtin "type.__call__" ⟨.ref C :: vs, []⟩).envs A.frames = some l
    rw [a.frames]; rfl
  · show A.depth + (Code.builtin "type.__call__" ⟨.ref C :: vs, []⟩).weight + n + 4 < _
    rw [hw]; have := a.depth; omega
  · show A.units + (Code.builtin "type.__call__" ⟨.ref C :: vs, []⟩).cUnits + 32 * n + 200 < _
    have := a.units; omega
theorem bindL_lookup {lk : Str → Option NameKind} {y : Str} (binds : List (Str × Value)) : ∀ {base : Str → Option Value}, (∀ x ∈ binds, lk x.1 = some .local) → bindL lk binds base y = (binds.reverse.lookup y).or (base y) := by
  induction binds with
  | nil => exact fun _ => rfl
  | cons p r ih =>
    intro base h
    obtain ⟨n, v⟩ := p
    rw [bindL, if_pos (h _ (.head _)), ih fun x hx => h x (.tail _ hx), List.reverse_cons, List.lookup_append, Option.or_assoc]
    congr 1
    show (if y = n then some v else base y) = (match y == n with | true => some v | false => none).or (base y)
    by_cases e : y = n
    · rw [if_pos e, beq_iff_eq.mpr e]; rfl
    · rw [if_neg e, beq_eq_false_iff_ne.mpr e]; rfl
theorem init_of {fa T : Addr} {oc ot : Value} {od odt : Option Addr} {osl oslT : Array (Option Value)} {params : Arguments} {body : List Stmt} {kV doc pm ct ccd : Value} {an : Option Addr} {nm cn : Str} {cs : Scope} {tk0 : Tok} {nT : Nat} {F : MC → List V → Nat → Res ((Out × List V) × Nat)} {vars : List Str} {tS pS dS kS zS : Str}
    (hvars : vars = [jH, tS, pS, dS, kS, zS])
    (ho : KK.lookup fa = some ⟨oc, od, .func (fnOf nm cn params body cs (.ref T) kV doc pm an ccd ct), osl⟩) (hT : KK.lookup T = some ⟨ot, odt, .seq #[.int 60 tk0, .none] nT, oslT⟩)
    (hcd : codeIn KK ccd cn = true) (hF : FOk ⟨cn, cs, fa, ccd, vars, false⟩)
    (hb : FOk ⟨cn, cs, fa, ccd, vars, false⟩ → ∀ mc, SndB prog w G (RIw w G mc) ⟨cn, cs, fa, ccd, vars, false⟩ n body (F mc))
    (hm : makesIn KK 253 = true) (hfi : findIn KK (.ref 253) "__init__" = some (some (.ref fa))) (hty : typeIn KK (.ref fa) = some (.type "function"))
    (hbind : ∀ a b c : Value, ∃ k, bindArgs (fnOf nm cn params body cs (.ref T) kV doc pm an ccd ct) ⟨[a, b, c], []⟩ = seqItems? (.ref T) >>= k ∧ k (some #[.int 60 tk0, .none]) = pure [(jH, a), (tS, b), (pS, c), (dS, .int 60 tk0), (kS, .none)])
    (hloc : ∀ x ∈ [jH, tS, pS, dS, kS], cs.names.lookup x = some .local) (hcell : ∀ x ∈ cs.names, x.2 ≠ .cell) (hcf : ∀ L, cellsFrom L cs.names [] = []) (hco : cs.isCoroutine = false) (hgen : cs.isGenerator = false)
    {text pat : List UInt8} (hE : ∀ x dx, ∃ ρ', F ⟨x, dx, text, pat⟩ [.ref x, .bytes text, .bytes pat, .int 60, .none, .undef] 0 = .ok ((.next, ρ'), 8))
    {A : Around} {outer : List Env} {s : Shared} {σ : RU.T} {vt vp : Value} {Q : Value → Shared → Prop} {E : Value → Shared → Prop}
    (hA : AOk A outer (n + 2)) (c : Cal G RU outer s.heap σ) (rt : Rep [] s.heap vt (.bytes text)) (rp : Rep [] s.heap vp (.bytes pat))
    (h : ∀ x dx χ h' tk, G.g.StaysIn h' → h'.FunFrames G.g outer → Keep [] s.heap h' → MRep w.params G.g ⟨x, dx, text, pat⟩ (⟨0, 0, [], []⟩, χ) h' → (∀ a ∈ [x, dx, χ.la, χ.lb], s.heap.get? a = none) → Q (.ref x) { s with heap := h', toks := tk }) :
    wpAny (model prog w) A (call (.ref 253) [vt, vp]) Q E s := by
  have X : KK.In s.heap := fun b o e => c.base b o (G.inK b o e)
  obtain ⟨tt, rfl, zt⟩ := rt.bytes? rfl
  obtain ⟨tp, rfl, zp⟩ := rp.bytes? rfl
  subst hvars
  refine wpAny_call (make_core (makes_of X hm) (looks_findIn X hfi) (fun self => bind_fn X self hty) (.inl rfl) ?_)
  have hn0 : ∀ {k : Nat}, s.heap.objs.size ≤ k → s.heap.get? k = none := fun {k} hk => by
    cases q : s.heap.get? k with
    | none => rfl
    | some o => exact absurd (Heap.lt_size q) (Nat.not_lt.mpr hk)
  have r1 : s.heap.StaysIn ((s.heap.push emptyDict).push (instObj 253 s.heap.objs.size)) ∧ ((s.heap.push emptyDict).push (instObj 253 s.heap.objs.size)).get? (s.heap.objs.size + 1) = some (instObj 253 s.heap.objs.size) ∧ ((s.heap.push emptyDict).push (instObj 253 s.heap.objs.size)).get? s.heap.objs.size = some emptyDict :=
    ⟨fun b o e => Heap.get?_push_of_some _ (Heap.get?_push_of_some _ e), Heap.size_push s.heap emptyDict ▸ Heap.get?_push_size _ rfl, Heap.get?_push_of_some _ (Heap.get?_push_size _ rfl)⟩
  generalize (s.heap.push emptyDict).push (instObj 253 s.heap.objs.size) = h2 at r1 ⊢
  generalize s.heap.objs.size = dx at hn0 r1 ⊢
  obtain ⟨st2, ex, ed⟩ := r1
  have X2 : KK.In h2 := fun b o e => st2 _ _ (X b o e)
  have hgn : ∀ {k : Nat}, dx ≤ k → G.g.get? k = none := fun {k} hk => by
    cases q : G.g.get? k with
    | none => rfl
    | some o => have := c.base _ _ q; rw [hn0 hk] at this; cases this
  have hA1 : AOk (A.under (.builtin "type.__call__" ⟨[.ref 253, .bytes text.toArray tt, .bytes pat.toArray tp], []⟩)) outer (n + 1) := hA.made
  generalize A.under (.builtin "type.__call__" ⟨[.ref 253, .bytes text.toArray tt, .bytes pat.toArray tp], []⟩) = A1 at hA1 ⊢
  obtain ⟨kb, hb1, hb2⟩ := hbind (.ref (dx + 1)) (.bytes text.toArray tt) (.bytes pat.toArray tp)
  have hk := hF.kind
  have cal2 : Cal G (RIw w G ⟨dx + 1, dx, text, pat⟩) outer h2 (0, []) := by
    refine ⟨fun b o e => st2 b o (c.base b o e), c.ff.of_keeps fun b o e _ => ⟨o, st2 b o e, rfl⟩, fun e he b hb z => ?_, ex, ⟨fun _ => 0, 0, ed⟩, fun a ha => (nomatch ha), .nil, rfl, hgn (Nat.le_succ _), hgn (Nat.le_refl _), zt, zp⟩
    obtain ⟨_, o, ho, _⟩ := c.ff.mem (List.mem_filterMap.mpr ⟨e, he, hb⟩)
    rcases List.mem_cons.mp z with rfl | z
    · rw [hn0 (Nat.le_succ _)] at ho; cases ho
    · cases List.mem_singleton.mp z; rw [hn0 (Nat.le_refl _)] at ho; cases ho
  refine codeAny_call_def (fd := fnOf nm cn params body cs (.ref T) kV doc pm an ccd ct) (body := body) (Nat.lt_of_le_of_lt (Nat.le_add_right _ (n + 1 + 4)) hA1.depth) (X2 _ _ ho) rfl (G.top.nolimit.keeps cal2.base) (codeRec_of X2 hcd) rfl (BindsTo.of_defaults rfl (X2 _ _ hT) rfl hb1 hb2) hcell (fun x hx => ?_) (fun h3 hns3 st3 => ?_) hco hgen hk
  · exact hloc _ (by simpa using List.mem_map_of_mem (f := Prod.fst) hx)
  have hns : h3.Ns h2.objs.size (bindL (cs.names.lookup ·) (([jH, tS, pS, dS, kS]).zip [.ref (dx + 1), .bytes text.toArray tt, .bytes pat.toArray tp, .int 60 tk0, .none]) fun _ => none) := by
    have e : bindL (cs.names.lookup ·) (([jH, tS, pS, dS, kS]).zip [.ref (dx + 1), .bytes text.toArray tt, .bytes pat.toArray tp, .int 60 tk0, .none]) (fun _ => none) = _ := funext fun y => bindL_lookup _ fun x hx => hloc _ (List.of_mem_zip hx).1
    rw [e]
    have e2 : ∀ o : Option Value, o.or none = o := fun o => by cases o <;> rfl
    simp only [e2]
    exact hns3
  have hW := entered (f := ⟨cn, cs, fa, ccd, [jH, tS, pS, dS, kS, zS], false⟩) (s := { s with heap := h2 }) (cl := {}) (k := 5) (xs := [.ref (dx + 1), .bytes text, .bytes pat, .int 60, .none]) rfl (hcf _).symm cal2 (.cons (.ref _) (.cons (.bytes _ _ zt) (.cons (.bytes _ _ zp) (.cons (.int _ _) (.cons .none .nil))))) rfl (Nat.le_succ 5) hF.nd hk (fun x hx => .inl (hloc x hx)) hns st3 (fun n c e => by rw [hcf] at e; cases e) (fun n c e => by rw [hcf] at e; cases e)
  obtain ⟨ρ', hF'⟩ := hE (dx + 1) dx
  have st : s.heap.StaysIn h3 := fun b o e => st3 _ _ (st2 _ _ e)
  have hL : s.heap.get? h2.objs.size = none := by
    cases q : s.heap.get? h2.objs.size with
    | none => rfl
    | some o => exact absurd (Heap.lt_size (st2 _ _ q)) (Nat.lt_irrefl _)
  clear cal2 hns hns3 X X2 ho hT hm hfi hty hbind hb1 hb2 hcell hcf hloc ex ed
  refine hb hF ⟨dx + 1, dx, text, pat⟩ h2.objs.size {} (A1.deeper _) (_ :: outer) ⟨h3, _, _, _, _⟩ _ (0, []) _ _ (AOk.deeper hA1) hW (fun o ρ'' σ' fl h4 tk4 e4 W4 S4 r4 => ?_) (fun e h4 tk4 e4 x => absurd (hF'.symm.trans e4) (fun z => nomatch z)) (fun e => absurd (hF'.symm.trans e) (fun z => nomatch z))
  have e4 := Prod.mk.inj (Res.ok.inj (hF'.symm.trans e4))
  cases (Prod.mk.inj e4.1).1
  obtain ⟨k', Xs⟩ := σ'
  cases e4.2
  cases fl <;> first | exact r4.elim | skip
  refine ⟨rfl, ?_⟩
  have R := W4.cal.rep
  obtain ⟨la, lb, rfl⟩ : ∃ la lb, Xs = [la, lb] := by
    have hl2 : Xs.length = 2 := R.len
    cases Xs with
    | nil => cases hl2
    | cons la Xs =>
      cases Xs with
      | nil => cases hl2
      | cons lb Xs => exact ⟨la, lb, by rw [List.length_eq_zero_iff.mp (Nat.succ.inj (Nat.succ.inj hl2))]⟩
  obtain ⟨tt, nn, hd⟩ := R.dict
  have new : ∀ a ∈ (dx + 1) :: dx :: [la, lb], s.heap.get? a = none := fun a ha => by
    rcases S4.grow a ha with z | z
    · rcases List.mem_cons.mp z with rfl | z
      · exact hn0 (Nat.le_succ _)
      · cases List.mem_singleton.mp z; exact hn0 (Nat.le_refl _)
    · cases q : s.heap.get? a with
      | none => rfl
      | some o => rw [st _ _ q] at z; cases z
  refine h (dx + 1) dx ⟨la, lb⟩ h4 tk4 W4.cal.base W4.cal.ff.2.2 (fun b o e hb => S4.keep b o (st b o e) fun z => ?_) ⟨R.inst, ⟨tt, nn, hd⟩, ⟨[], (R.ls la (.head _)).1, .nil⟩, ⟨[], (R.ls lb (.tail _ (.head _))).1, .nil⟩, R.nx, R.ndx, (R.ls la (.head _)).2, (R.ls lb (.tail _ (.head _))).2, (fun e => (List.nodup_cons.mp R.nd).1 (List.mem_singleton.mpr e)), zt, zp, Nat.zero_le _, Nat.zero_le _⟩ new
  rcases List.mem_cons.mp z with rfl | z
  · rw [hL] at e; cases e
  · rcases List.mem_cons.mp z with rfl | z
    · rw [hn0 (Nat.le_succ _)] at e; cases e
    · cases List.mem_singleton.mp z; rw [hn0 (Nat.le_refl _)] at e; cases e
end
section
variable {w : World} {G : Gd (KF w.params)} {mc : MC}
set_option maxHeartbeats 4000000
theorem ex_of {r : Res ((Out × List V) × Nat)} (h : ∀ P : Res ((Out × List V) × Nat) → Prop, (∀ ρ', P (.ok ((.next, ρ'), 8))) → P r) : ∃ ρ', r = .ok ((.next, ρ'), 8) := h (fun r => ∃ ρ', r = .ok ((.next, ρ'), 8)) fun ρ' => ⟨ρ', rfl⟩
theorem find_shape {Γ S : Type} {γ : Γ} {F : Γ → Dn S V} {c : List UInt8} : ∀ ρ σ v σ₁, F γ ρ σ = .ok (v, σ₁) → ((eBytesD c γ ρ σ₁).bind fun q => (jV (evFind v q.1)).bind fun v => Res.ok (v, q.2)) ≠ .stuck → ∀ (s : Shared) (X : List Addr) (a : Value), Rep X s.heap a v → s.TypeIs a "bytes" ∧ (∀ b, a = .ref b → ∃ ob, s.heap.get? b = some ob ∧ ob.dict = none) := by
  intro ρ σ v σ₁ _ hn s X a r
  obtain ⟨z, hz, _⟩ := ofOpt_ne (o := evFind v (.bytes c)) (k := fun v => Res.ok (v, σ₁)) hn
  obtain ⟨b, _, hb, _⟩ := on2_some hz
  obtain ⟨t, rfl, _⟩ := r.bytes? hb
  exact ⟨typeIs_bytes _ _ _, fun _ e => nomatch e⟩
theorem call_matcher {text pat : List UInt8} (hz : ∀ c ∈ pat, c ≠ 0) {A : Around} {outer : List Env} {s : Shared} {σ : RU.T} {vt vp : Value} {Q : Value → Shared → Prop} {E : Value → Shared → Prop}
    (hA : AOk A outer (0 + 2)) (c : Cal G RU outer s.heap σ) (rt : Rep [] s.heap vt (.bytes text)) (rp : Rep [] s.heap vp (.bytes pat))
    (h : ∀ x dx χ h' tk, G.g.StaysIn h' → h'.FunFrames G.g outer → Keep [] s.heap h' → MRep w.params G.g ⟨x, dx, text, pat⟩ (⟨0, 0, [], []⟩, χ) h' → (∀ a ∈ [x, dx, χ.la, χ.lb], s.heap.get? a = none) → Q (.ref x) { s with heap := h', toks := tk }) :
    wpAny (model Challenge.pw_sa0469_01 w) A (call (.ref 253) [vt, vp]) Q E s := by
  have M := mOk w.params
  refine' init_of (G := G) (n := 0) (vars := ["self", "text", "pattern", "depth", "tick", "zero"]) rfl ?ho ?hT ?hcd ?hF ?hb rfl rfl rfl ?hbind ?hloc ?hcell ?hcf ?hco ?hgen ?hE hA c rt rp h
  case ho => exact rfl
  case hT => exact rfl
  case hcd => exact rfl
  case hF => exact ⟨by decide +kernel, rfl, by decide +kernel⟩
  case hb =>
    intro hF mc
    exact (jB (sSet 5 hF (eMeth1 (jA 2 hF) (jZ (by decide)) FB.plainAttrs_bytes slot_b_find type_b_find find_shape op_find)) (jB (sIni 0 (by omega) hF M.C (jA 1 hF) rfl rfl) (jB (sIni 1 (by omega) hF M.C (ifexp_ (jI op_lt (jA 5 hF) jG rfl) (jA 2 hF) (slice_ (jA 2 hF) pNone (pSome (jA 5 hF)))) rfl rfl) (jB (sIni 2 (by omega) hF M.C (jA 3 hF) rfl rfl) (jB (sIni 3 (by omega) hF M.C (jA 4 hF) rfl rfl) (jB (sIni 4 (by omega) hF M.C jG rfl rfl) (jB (sIni 5 (by omega) hF M.C jG rfl rfl) (jB (sIniL 6 (by omega) hF M.C rfl rfl) (jB (sIniL 7 (by omega) hF M.C rfl rfl) jF)))))))))
  case hbind => exact fun a b c => ⟨_, rfl, rfl⟩
  case hcf => exact fun _ => rfl
  case hco => exact rfl
  case hgen => exact rfl
  case hloc => decide +kernel
  case hcell => decide +kernel
  case hE =>
    intro x dx
    have hev : evFind (.bytes pat) (.bytes [0]) = some (.int (-1)) := by unfold evFind; exact if_pos ⟨rfl, hz⟩
    refine ex_of fun P hP => kC (v := .int (-1)) (σ₁ := 0) ?_ (g_ini rfl ?_ (g_ini (v := .bytes pat) (e_ifT (jJ rfl rfl rfl) rfl) ?_ (g_ini rfl rfl (g_ini rfl rfl (g_ini rfl rfl (g_ini rfl rfl (g_iniL (g_iniL ?_))))))))
    · show (jV (evFind (.bytes pat) (.bytes [0]))).bind _ = _
      rw [hev]; rfl
    · exact sameV_bytes text
    · exact sameV_bytes pat
    · exact hP _
end
section
variable {w : World} {G : Gd (KF w.params)} {f : Fn} {n : Nat}
theorem w_newM {x y cls tn pn : Str} {px py tp1 np tp pp cpos tp2 pos : Pos} {kd kd2 : Nat} {e1 : Expr} {rest : List Stmt} {F1 : Den RU V} {Fr : MC → List V → MS → Res V} {F : List V → Unit → Res V} (i j it ip : Nat) (hn2 : 2 ≤ n) (hF : FOk f)
    (h1 : jW Challenge.pw_sa0469_01 w G RU f n e1 F1) (hrest : ∀ mc, SndW Challenge.pw_sa0469_01 w G (RMw w G mc) f n rest (Fr mc))
    (hconv : ∀ ρ, F ρ () ≠ .stuck → ∃ b text pat, F1 ρ () = .ok (b, ()) ∧ getv ρ it = .ok (.bytes text) ∧ getv ρ ip = .ok (.bytes pat) ∧ (∀ c ∈ pat, c ≠ 0) ∧ ∀ a dx, Fr ⟨a, dx, text, pat⟩ ((ρ.set j (.ref a)).set i b) ⟨0, 0, [], []⟩ = F ρ ())
    (hg : nsIn (KF w.params) mainGlobals cls = some (some (.ref 253)) := by rfl) (hcx : f.cs.names.lookup cls = some .globalImplicit := by decide +kernel) (hcd : (cls == ("__debug__" : Str)) = false := by decide +kernel)
    (hit : f.vars[it]? = some tn := by rfl) (hip : f.vars[ip]? = some pn := by rfl)
    (hi : f.vars[i]? = some x := by rfl) (hj : f.vars[j]? = some y := by rfl) (hk1 : f.cs.names.lookup x = some .local := by decide +kernel) (hk2 : f.cs.names.lookup y = some .local := by decide +kernel) (hC : f.isC = false := by rfl)
    (hs1 : ∀ env, starEach [e1, .Call (.Name cls np) [.Name tn tp, .Name pn pp] [] cpos] env = (false, eval e1 env) :: starEach [.Call (.Name cls np) [.Name tn tp, .Name pn pp] [] cpos] env := by intro; rfl)
    (hsw : ∀ env, swapsWithSole [.Tuple [.Name x px, .Name y py] kd tp1] (.Tuple [e1, .Call (.Name cls np) [.Name tn tp, .Name pn pp] [] cpos] kd2 tp2) pos.line env = pure false := by intro; rfl)
    (hw : ∀ L cl, swappedStores [.Tuple [.Name x px, .Name y py] kd tp1] (.Tuple [e1, .Call (.Name cls np) [.Name tn tp, .Name pn pp] [] cpos] kd2 tp2) (f.env L cl) = pure (some [x, y]) := by intro _ _; rfl) :
    SndW Challenge.pw_sa0469_01 w G RU f n (.Assign [.Tuple [.Name x px, .Name y py] kd tp1] (.Tuple [e1, .Call (.Name cls np) [.Name tn tp, .Name pn pp] [] cpos] kd2 tp2) pos :: rest) F := by
  intro L cl A outer s ρ σ Q E hA W hQ hE hS
  obtain ⟨b, text, pat, c1, c2, c3, c4, c5⟩ := hconv ρ hS
  refine wpAny_execs_cons (Assign_Tuple_swapped (Tuple_ ?_) (hsw _) (hw _ _))
  rw [hs1]
  refine spliced_cons (h1 L cl A outer s ρ σ _ _ hA W (fun v σ1 vv h1 tk1 q1 W1 S1 r1 => ?_) (fun e h' tk q _ => absurd (c1.symm.trans q) (fun z => nomatch z)) (fun q => absurd (c1.symm.trans q) (fun z => nomatch z)))
  cases (Prod.mk.inj (Res.ok.inj (c1.symm.trans q1))).1
  have hst2 : ∀ env, starEach [.Call (.Name cls np) [.Name tn tp, .Name pn pp] [] cpos] env = (false, eval (.Call (.Name cls np) [.Name tn tp, .Name pn pp] [] cpos) env) :: starEach [] env := by intro; rfl
  rw [hst2]
  refine spliced_cons ?_
  refine wpAny_Call_NameR (name_glob (s := ⟨_, _, _, _, _⟩) W1 hg ?_ hF.kind hcx hcd)
  refine callWith_K G.inK (by rfl) ?_ rfl rfl
  have hl : SndL Challenge.pw_sa0469_01 w G RU f n cpos [.Name tn tp, .Name pn pp] (jM (jY it) (jM (jY ip) lNilD) ()) := jC (jA it hF hit) (jC (jA ip hF hip) jK)
  have hq : jM (jY it) (jM (jY ip) lNilD) () ρ σ1.1 = .ok ([.bytes text, .bytes pat], σ1.1) := jD (by rw [jY, c2]; rfl) (jD (by rw [jY, c3]; rfl) jX)
  refine hl L cl A outer ⟨_, _, _, _, _⟩ ρ σ1 _ _ hA W1 (fun xs σ2 vs h2 tk2 q2 W2 S2 r2 => ?_) (fun e h' tk q _ => absurd (hq.symm.trans q) (fun z => nomatch z)) (fun q => absurd (hq.symm.trans q) (fun z => nomatch z))
  cases (Prod.mk.inj (Res.ok.inj (hq.symm.trans q2))).1
  refine ⟨fun b o e => W2.cal.base b o (G.inK b o e), ?_⟩
  have hvl := r2.length
  cases r2 with
  | cons rt r2 =>
  cases r2 with
  | cons rp r2 =>
  cases r2
  refine call_matcher (s := ⟨_, _, _, _, _⟩) (σ := σ2) c4 (hA.le (by omega)) W2.cal rt rp fun a dx χ h3 tk3 b3 f3 k3 m3 n3 => ?_
  refine spliced_nil ?_
  let mc : MC := ⟨a, dx, text, pat⟩
  let τ : (RMw w G mc).T := (⟨0, 0, [], []⟩, χ)
  have W3 : Wf G (RMw w G mc) (f.env L cl) f.vars outer h3 ρ τ := W2.turn k3 b3 f3 m3 n3
  have k02 : Keep [] s.heap h2 := (S1.trans W1 S2).keep
  have k03 : Keep [] s.heap h3 := k02.trans (.refl _ _) k3
  have hnew : ∀ d ∈ (RMw w G mc).foot τ, s.heap.get? d = none := fun d hd => by
    cases q : s.heap.get? d with
    | none => rfl
    | some o =>
      obtain ⟨sl, q', _⟩ := k02 d o q (fun z => nomatch z)
      rw [n3 d hd] at q'; cases q'
  have r1' : Rep ((RMw w G mc).foot τ) h3 vv b := (S2.rep W1 r1).keep k3 (fun b hb => .inr (n3 b hb)) fun b hb => nomatch hb
  refine wpAny_newTuple ?_ (by rw [sizeLine_eq]; exact Nat.le_of_ble_eq_true rfl)
  have stT := StaysIn.push h3 { cls := .type "tuple", data := .seq ([vv, Value.ref a] : List Value).toArray }
  have W4 := W3.stays stT
  have rL : RepL ((RMw w G mc).foot τ) (h3.push { cls := .type "tuple", data := .seq ([vv, Value.ref a] : List Value).toArray }) [vv, Value.ref a] [b, .ref a] := .cons (r1'.keep (Keep.of_stays (X := []) stT) (.refl _ _) fun _ hb => nomatch hb) (.cons (.ref _) .nil)
  have hsz : ([x, y] : List Str).length = ([vv, Value.ref a] : List Value).toArray.size := rfl
  rw [hsz]
  refine wpAny_unpackItems_tuple (s := ⟨_, _, _, _, _⟩) hA.handled ⟨_, Heap.get?_push_size _ rfl, rfl, 0, rfl⟩ fun h4 ex => ?_
  have st4 := StaysIn.of_ext ex
  have W5 := W4.stays st4
  have em : (([x, y] : List Str).reverse.map fun n => bindName (f.env L cl) n) = ([(y, j), (x, i)] : List (Str × Nat)).map fun t => (fun x v => bindName (f.env L cl) x v) t.1 := rfl
  rw [em]
  refine store_all hF hC (fun x v => bindName (f.env L cl) x v) (fun s x v Q q => bindName_ q) [(y, j), (x, i)] _ [.ref a, b] ρ τ ⟨_, _, _, _, _⟩ _ (fun t ht => ?_) (fun t ht => ?_) rfl ?_ W5 fun h5 tk5 W6 S6 => ?_
  · simp only [List.mem_cons, List.not_mem_nil, or_false] at ht
    rcases ht with rfl | rfl
    · exact hj
    · exact hi
  · simp only [List.mem_cons, List.not_mem_nil, or_false] at ht
    rcases ht with rfl | rfl
    · exact hk2
    · exact hk1
  · exact (rL.keep (Keep.of_stays (X := (RMw w G mc).foot τ) st4) (.refl _ _) fun b hb => .inl hb).reverse
  · have S36 : Stp (RMw w G mc) [L] h3 τ h5 τ := ((Stp.of_stays stT).trans W4 (Stp.of_stays st4)).trans W5 S6
    have k5 : Keep [L] s.heap h5 := fun b o ho hb => by
      obtain ⟨sl, q, z⟩ := k03 b o ho (fun z => nomatch z)
      obtain ⟨sl', q', z'⟩ := S36.keep b _ q fun w => by
        rcases List.mem_cons.mp w with w | w
        · exact hb (w ▸ .head _)
        · rw [hnew b w] at ho; cases ho
      exact ⟨sl', q', fun hd => (z' hd).trans (z hd)⟩
    have gr : ∀ d ∈ (RMw w G mc).foot τ, d ∈ RU.foot σ ∨ s.heap.get? d = none := fun d hd => .inr (hnew d hd)
    have hcv := c5 a dx
    refine hrest mc L cl A outer ⟨_, _, _, _, _⟩ _ τ _ _ hA W6 (fun v' fl h6 tk6 q6 b6 f6 k6 r6 => ?_) (fun e' h6 tk6 e6 x6 => ?_) (fun q => ?_)
    · refine hQ v' fl h6 tk6 (hcv.symm.trans q6) b6 f6 (k5.trans (X' := L :: (RMw w G mc).foot τ) (fun b hb => ?_) k6) r6
      rcases List.mem_cons.mp hb with rfl | hb
      · exact .inl (.head _)
      · exact (gr b hb).imp (fun z => nomatch z) id
    · exact hE e' h6 tk6 (hcv.symm.trans e6) (Err.down (R := RU) k5 gr W.noRec x6)
    · exact hS (hcv.symm.trans q)
end
section
variable {prog : Program} {w : World} {KK : Frag} {G : Gd KK} {f : Fn} {n : Nat} {Γ : Type} {γ : Γ} {μ : Γ → MC}
noncomputable def mvD (μ : Γ → MC) (F : Γ → List V → MS → Res (V × MS)) (i : Nat) (Fs : Γ → Dn MS (List V)) : Γ → Dn MS V := fun γ ρ σ => (getv ρ i).bind fun v => onM (μ γ) v ((Fs γ ρ σ).bind fun p => F γ (.ref (μ γ).x :: p.1) p.2)
theorem mCallV {x name : Str} {xp apos pos : Pos} {a : Expr} {as : List Expr} {fa : Addr} {m : Nat} {F : Γ → List V → MS → Res (V × MS)} {Fs : Γ → Den (RMw w G (μ γ)) (List V)} (i : Nat) (hF : FOk f) (C : ClsOk KK)
    (hfs : FS prog w G (RMw w G (μ γ)) fa m (F γ)) (hm : m ≤ n) (hl : SndL prog w G (RMw w G (μ γ)) f n pos (a :: as) (Fs γ))
    (hf : findIn KK (.ref 253) name = some (some (.ref fa))) (ht : typeIn KK (.ref fa) = some (.type "function")) (hg : ∀ σ k, getL name (mEnts w.params (μ γ) σ k) = some none) (hkeep : keepIn KK (.ref fa) = true) (hline : (apos.endLine == pos.line) = true)
    (hi : f.vars[i]? = some x := by rfl)
    (hb : ∀ env, attributeBase (.Name x xp) name env (eval (.Name x xp) env) = eval (.Name x xp) env := by intro; rfl)
    (hform : ∀ env, methodCallForm ((a :: as).length + ([] : List Keyword).length) (backTo pos (starEach (a :: as) env)) (backToKw pos (keywordEach [] env)) = true := by intro; rfl)
    (h1 : ∀ env, starEach (a :: as) env = (false, eval a env) :: starEach as env := by intro; rfl) (h2 : ∀ env, ((backTo pos (starEach as env)).any fun x => x.1) = false := by intro; rfl) :
    jW prog w G (RMw w G (μ γ)) f n (.Call (.Attribute (.Name x xp) name apos) (a :: as) [] pos) (mvD μ F i Fs γ) := Snd.mk fun L cl A outer s ρ σ Q E hA W K => by
  cases hgv : getv ρ i with
  | err => exact absurd hgv getv_err
  | stuck => exact absurd (by show (getv ρ i).bind _ = _; rw [hgv]; rfl) K.ns
  | ok v =>
  have K : Kont G (RMw w G (μ γ)) f L cl outer rdV s.heap σ ρ s ((getv ρ i).bind fun v => onM (μ γ) v ((Fs γ ρ σ.1).bind fun p => F γ (.ref (μ γ).x :: p.1) p.2)) Q E := K
  rw [hgv] at K
  have K : Kont G (RMw w G (μ γ)) f L cl outer rdV s.heap σ ρ s (onM (μ γ) v ((Fs γ ρ σ.1).bind fun p => F γ (.ref (μ γ).x :: p.1) p.2)) Q E := K
  obtain ⟨hv, _⟩ := onM_ne K.ns
  subst hv
  rw [onM_self] at K
  refine call_attr (hb _) (hform _) hline (local_ hF hi W hgv fun vv rv => ?_)
  cases rv
  intro pl
  refine mMethod (L := L) C (WfK W) W.cal.rep hf ht hg ?_
  refine callWith_K G.inK hkeep ?_ (h1 _) (h2 _)
  refine hl.run hA W W .refl K fun v σ₁ vv h₁ tk₁ e₁ W₁ _ S₁ r₁ K₁ => ⟨fun b o e => W₁.cal.base b o (G.inK b o e), ?_⟩
  exact hfs.run (s := ⟨_, _, _, _, _⟩) hm hA W W₁ S₁ (.cons (.ref _) r₁) K₁.tail fun v₂ σ₂ vv₂ h₂ tk₂ e₂ W₂ T₂ S₂ r₂ K₂ => K₂.ok _ _ _ _ _ rfl W₂ S₂ r₂
theorem e_mv {F : Γ → List V → MS → Res (V × MS)} {Fs : Γ → Dn MS (List V)} {i : Nat} {ρ xs : List V} {σ : MS} {r : Res (V × MS)} (h : getv ρ i = .ok (.ref (μ γ).x)) (hl : Fs γ ρ σ = .ok (xs, σ)) (e : F γ (.ref (μ γ).x :: xs) σ = r) : mvD μ F i Fs γ ρ σ = r := by
  show (getv ρ i).bind _ = _; rw [h]; show onM _ _ _ = _; rw [onM_self, hl]; exact e
end
noncomputable def g50 (mc : MC) : GM := ⟨mc, mMatch mc 50⟩
noncomputable abbrev refS : Str := Str.ofString "refused"
noncomputable def refuse : Res V → Res V
  | .ok v => .ok v
  | .err => .ok (.str refS)
  | .stuck => .stuck
noncomputable def capsV (γ : GM) (p : Nat × Nat) (σ : MS) : Res V := (fCaptures γ [.ref γ.mc.x, .int p.1, .int p.2, .bool true] σ).bind fun r => .ok (.tup [.tup [.int p.1, .int p.2], r.1])
noncomputable def foundV (γ : GM) (r : Res (Option (Nat × Nat) × MS)) : Res V := r.bind fun r => r.1.elim (.ok .none) fun p => capsV γ p r.2
noncomputable def heardG (γ : GM) (b : Bool) : Res V := refuse (foundV γ (searchD γ.mc γ.M b (if b then 1 else 0) (γ.mc.text.length + 2) 0 ⟨0, 0, [], []⟩))
noncomputable def heardR (mc : MC) : Res V := heardG (g50 mc) (decide (atN mc.pat 0 = 94))
noncomputable def HeardOk (text pat : List UInt8) : Prop := (∀ c ∈ pat, c ≠ 0) ∧ ∀ a dx, heardR ⟨a, dx, text, pat⟩ = heardR ⟨0, 0, text, pat⟩
open Classical in
noncomputable def heardP (text pat : List UInt8) : Res V := if HeardOk text pat then heardR ⟨0, 0, text, pat⟩ else .stuck
noncomputable def fHeard : List V → Unit → Res (V × Unit) := bb fun text pat _ => (heardP text pat).bind fun v => .ok (v, ())
open Classical in
noncomputable def heardW : List V → Unit → Res V := fun ρ _ => onCons ρ fun x l => onBytes x fun x => onCons l fun y l => onBytes y fun y => if l = [.undef, .undef, .undef] then heardP x y else .stuck
theorem e_tupS {Γ S : Type} {γ : Γ} {F1 F2 : Γ → Dn S V} {ρ : List V} {σ : S} {x : V} (r : Res (V × S)) (h1 : F1 γ ρ σ = .ok (x, σ)) (h2 : F2 γ ρ σ = r) : tupleD (jM F1 (jM F2 lNilD)) γ ρ σ = r.bind fun p => .ok (.tup [x, p.1], p.2) := by
  subst h2
  show (((F1 γ ρ σ).bind _).bind _) = _; rw [h1]; show ((((F2 γ ρ σ).bind _).bind _).bind _) = _
  cases F2 γ ρ σ <;> rfl
theorem et_ret {Γ S : Type} {γ : Γ} {k : List V → S → Res V} {F : Γ → Dn S V} {K : Γ → Dn S (Out × List V)} {ρ : List V} {σ : S} (r : Res (V × S)) (h : F γ ρ σ = r) : caughtD refS k (jO (sRetD F) K γ ρ σ) = refuse (r.bind fun p => .ok p.1) := by
  subst h
  show caughtD refS k (((F γ ρ σ).bind _).bind _) = _
  cases F γ ρ σ <;> rfl
noncomputable def dFound : GM → Dn MS (Out × List V) := jO (sSetD (mvD GM.mc fSearch 3 (jM (eIntD 0) (jM (eInt1D (jM (jY 2) lNilD)) (jM (jY 2) lNilD)))) 4) (jO (sRetD (ifexpD (tcmpD (jY 4) eNoneD evIs) eNoneD (tupleD (jM (jY 4) (jM (mvD GM.mc fCaptures 3 (jM (subD (jY 4) (eIntD 0)) (jM (subD (jY 4) (eIntD 1)) (jM (eBoolD true) lNilD)))) lNilD))))) bNilD)
theorem found_ev {γ : GM} {k : List V → MS → Res V} {x y z : V} {b : Bool} (hs : heardG γ b ≠ .stuck) : caughtD refS k (dFound γ [x, y, .bool b, .ref γ.mc.x, z] ⟨0, 0, [], []⟩) = heardG γ b := by
  unfold heardG at hs ⊢
  have e1 : mvD GM.mc fSearch 3 (jM (eIntD 0) (jM (eInt1D (jM (jY 2) lNilD)) (jM (jY 2) lNilD))) γ [x, y, .bool b, .ref γ.mc.x, z] ⟨0, 0, [], []⟩ = pairR (searchD γ.mc γ.M b (if b then 1 else 0) (γ.mc.text.length + 2) 0 ⟨0, 0, [], []⟩) :=
    e_mv rfl (jD rfl (jD (e_bint rfl) (jD rfl jX))) ((m2b_eq _ _ _ _).trans (by cases b <;> rfl))
  generalize searchD γ.mc γ.M b (if b then 1 else 0) (γ.mc.text.length + 2) 0 ⟨0, 0, [], []⟩ = r at e1 hs ⊢
  cases r with
  | stuck => exact absurd rfl hs
  | err => exact g_setE (P := fun X => caughtD refS k X = _) e1 rfl
  | ok r =>
    obtain ⟨o, σ⟩ := r
    refine kC (P := fun X => caughtD refS k X = _) e1 ?_
    cases o with
    | none => exact et_ret _ (e_ifT (jJ rfl rfl rfl) rfl)
    | some p =>
      refine (et_ret _ (e_ifF (jJ rfl rfl rfl) (e_tupS (fCaptures γ [.ref γ.mc.x, .int p.1, .int p.2, .bool true] σ) rfl (e_mv rfl (jD (e_sub rfl rfl rfl) (jD (e_sub rfl rfl rfl) (jD rfl jX))) rfl)))).trans (congrArg refuse ?_)
      show _ = (fCaptures γ [.ref γ.mc.x, .int p.1, .int p.2, .bool true] σ).bind _
      cases fCaptures γ [.ref γ.mc.x, .int p.1, .int p.2, .bool true] σ <;> rfl
section
variable {w : World} {G : Gd (KF w.params)}
set_option maxHeartbeats 400000
theorem heardW_ne {ρ : List V} (h : heardW ρ () ≠ .stuck) : ∃ text pat, ρ = [.bytes text, .bytes pat, .undef, .undef, .undef] ∧ (∀ c ∈ pat, c ≠ 0) ∧ heardR ⟨0, 0, text, pat⟩ ≠ .stuck ∧ ∀ a dx, heardR ⟨a, dx, text, pat⟩ = heardW ρ () := by
  obtain ⟨_, _, rfl, h1⟩ := jN h
  obtain ⟨text, rfl, h2⟩ := onBytes_ne h1
  obtain ⟨_, _, rfl, h3⟩ := jN h2
  obtain ⟨pat, rfl, h4⟩ := onBytes_ne h3
  clear h1 h2 h3 h
  split at h4
  · rename_i e
    subst e
    have e1 : heardW [.bytes text, .bytes pat, .undef, .undef, .undef] () = heardP text pat := if_pos rfl
    rw [e1]
    unfold heardP at h4 ⊢
    split at h4
    · rename_i hk
      rw [if_pos hk]
      exact ⟨text, pat, rfl, hk.1, h4, hk.2⟩
    · exact absurd rfl h4
  · exact absurd rfl h4
theorem fs_law_heard : FS Challenge.pw_sa0469_01 w G RU 331 (170 + 1) fHeard := by
  have M := mOk w.params
  refine fs_ofW ["text", "pattern", "is_bound", "matcher", "found"] 2 rfl rfl ⟨by decide +kernel, rfl, by decide +kernel⟩ (fun hF => w_newM (F := heardW) 2 3 0 1 (by omega) hF (cmp_ (γ := ()) jR (slice_ (jA 1 hF) pNone (pSome jG)) (jZ (by decide)) rfl) (fun mc => w_try (γ := g50 mc) (F := dFound) M.O (jB (sSet 4 hF (mCallV (γ := g50 mc) (μ := GM.mc) 3 hF M.C (fs_search (γ := g50 mc) (n := 160) (by omega) (fs_mMatch 50)) (by omega) (jC jG (jC (eInt1 (jC (jA 2 hF) jK)) (jC (jA 2 hF) jK))) rfl rfl (by intro _ _; rfl) rfl rfl)) (jB (sRet (ifexp_ (jI op_is (jA 4 hF) eNone rfl) eNone (tuple_ (jC (jA 4 hF) (jC (mCallV (γ := g50 mc) (μ := GM.mc) 3 hF M.C (fs_captures (γ := g50 mc)) (by omega) (jC (sub_ (jA 4 hF) jG) (jC (sub_ (jA 4 hF) jG) (jC eBool jK))) rfl rfl (by intro _ _; rfl) rfl rfl) jK))))) jF)) (w_of_B jF)) ?_) ?_ (kindLoc (by decide +kernel)) (by decide) rfl rfl ?_
  · intro ρ hS
    obtain ⟨text, pat, rfl, hz, hs, hk⟩ := heardW_ne hS
    refine ⟨.bool (decide (atN pat 0 = 94)), text, pat, e_cmp (e_sliceT rfl rfl) rfl (sb (dec_cut0 pat (by decide))), rfl, rfl, hz, fun a dx => ?_⟩
    rw [← hk a dx]
    exact found_ev (γ := g50 ⟨a, dx, text, pat⟩) (fun e => hS ((hk a dx).symm.trans e))
  · intro vs h; obtain ⟨a, b, rfl⟩ := len_two h; rfl
  · intro xs hS
    obtain ⟨_, _, rfl, h1⟩ := jN hS
    obtain ⟨text, rfl, h2⟩ := onBytes_ne h1
    obtain ⟨_, _, rfl, h3⟩ := jN h2
    obtain ⟨pat, rfl, h4⟩ := onBytes_ne h3
    obtain ⟨rfl, _⟩ := onNil_ne h4
    exact ⟨rfl, congrArg (fun r : Res V => r.bind fun v => .ok (v, ())) (if_pos rfl)⟩
end
structure BS where
  D : Addr
  C : Addr
  turn : Nat
  cells : List Int
structure BRep (g : Heap) (τ : BS × List Value) (h : Heap) : Prop where
  bowl : ∃ tk, h.IsList τ.1.D ([.ref τ.1.C, .int τ.1.turn tk] : List Value).toArray
  cells : h.IsList τ.1.C τ.2.toArray
  zs : IntsAre τ.2 τ.1.cells
  z : τ.1.cells.length ≤ 24
  n1 : g.get? τ.1.D = none
  n2 : g.get? τ.1.C = none
  ne : τ.1.D ≠ τ.1.C
@[reducible] noncomputable def RB (g : Heap) : StRep BS where
  X := List Value
  rep := BRep g
  foot := fun τ => [τ.1.D, τ.1.C]
  stable := fun {σ h h'} r k => by
    obtain ⟨⟨tk, o, ho, r1⟩, ⟨o2, ho2, r2⟩, a3, a4, a5, a6, a7⟩ := r
    exact ⟨⟨tk, o, k _ _ ho (.inl (.head _)), r1⟩, ⟨o2, k _ _ ho2 (.inl (.tail _ (.head _))), r2⟩, a3, a4, a5, a6, a7⟩
  live := fun {σ h} r a ha => by
    obtain ⟨⟨tk, o, ho, r1⟩, ⟨o2, ho2, r2⟩, _⟩ := r
    simp only [List.mem_cons, List.not_mem_nil, or_false] at ha
    rcases ha with rfl | rfl
    · rw [ho]; intro z; cases z
    · rw [ho2]; intro z; cases z
theorem BRep.soft {g h h' : Heap} {τ : BS × List Value} (r : BRep g τ h) (k : Keep [] h h') : BRep g τ h' := by
  obtain ⟨⟨tk, o, ho, hc, n, hd⟩, ⟨o2, ho2, hc2, n2, hd2⟩, a3, a4, a5, a6, a7⟩ := r
  obtain ⟨sl, q, _⟩ := k _ _ ho (fun z => nomatch z)
  obtain ⟨sl2, q2, _⟩ := k _ _ ho2 (fun z => nomatch z)
  exact ⟨⟨tk, _, q, hc, n, hd⟩, ⟨_, q2, hc2, n2, hd2⟩, a3, a4, a5, a6, a7⟩
section
variable {prog : Program} {w : World} {KK : Frag} {G : Gd KK} {f : Fn} {n : Nat}
theorem Wf.bowled {L : Addr} {cl : Cx} {outer : List Env} {h h' : Heap} {ρ : List V} {σ : (RB G.g).T} {t : Nat} {tk : Tok} (W : Wf G (RB G.g) (f.env L cl) f.vars outer h ρ σ)
    (hL : h'.IsList σ.1.D ([.ref σ.1.C, .int t tk] : List Value).toArray) (hs : Heap.SameBut σ.1.D h h') :
    Wf G (RB G.g) (f.env L cl) f.vars outer h' ρ ({ σ.1 with turn := t }, σ.2) ∧ Stp (RB G.g) [L] h σ h' ({ σ.1 with turn := t }, σ.2) := by
  have R := W.cal.rep
  obtain ⟨tk0, o0, ho0, hc0, n0, hd0⟩ := R.bowl
  have ex : ∀ b o, h.get? b = some o → (∀ xs n, o.data ≠ .seq xs n) → h'.get? b = some o := fun b o e hd => (hs.2 b fun q => by rw [q, ho0] at e; cases e; exact hd _ _ hd0).trans e
  obtain ⟨m, hm⟩ := W.ns
  obtain ⟨mf, hmf⟩ := W.frame
  have nsk : ∀ {a m}, h.Ns a m → h'.Ns a m := fun {a m} ⟨o, es, ep, ho, hd, r⟩ => ⟨o, es, ep, ex _ _ ho (fun xs n z => by rw [hd] at z; cases z), hd, r⟩
  have kp : Keep ((RB G.g).foot σ) h h' := fun b o e hb => ⟨o.slots, (hs.2 b fun q => hb (by rw [q]; exact .head _)).trans e, fun _ => rfl⟩
  have rk : ∀ {a : Value} {y : V}, Rep ((RB G.g).foot σ) h a y → Rep ((RB G.g).foot σ) h' a y := fun r => r.keep kp (.refl _ _) fun b hb => .inl hb
  have rep' : BRep G.g ({ σ.1 with turn := t }, σ.2) h' := by
    obtain ⟨o2, ho2, r2⟩ := R.cells
    exact ⟨⟨tk, hL⟩, ⟨o2, (hs.2 _ (Ne.symm R.ne)).trans ho2, r2⟩, R.zs, R.z, R.n1, R.n2, R.ne⟩
  refine ⟨⟨W.above, ⟨fun b o e => (hs.2 b fun q => by rw [q, R.n1] at e; cases e).trans (W.cal.base b o e), ?_, W.cal.nf, rep'⟩, W.top, ⟨L, mf, rfl, nsk hmf⟩, ⟨m, nsk hm⟩, W.apart, fun i y v' hi hv hne => ?_⟩, kp.mono fun b hb => .tail _ hb, .refl _ _⟩
  · refine ff_mono (fun b o e hd => ?_) W.cal.ff
    by_cases q : b = σ.1.D
    · obtain ⟨oL, hoL, _, nL, hdL⟩ := hL
      exact ⟨oL, q ▸ hoL, fun vs z => by rw [hdL] at z; cases z⟩
    · exact ⟨o, (hs.2 b q).trans e, hd⟩
  · rcases W.var i y v' hi hv hne with ⟨hk', m', vv', hn', hm', r'⟩ | ⟨hk', c, vv', hc, hx', hI', r'⟩
    · exact .inl ⟨hk', m', vv', nsk hn', hm', rk r'⟩
    · obtain ⟨oc, hoc, hdc⟩ := hI'
      exact .inr ⟨hk', c, vv', hc, hx', ⟨oc, ex _ _ hoc (fun xs n z => by rw [hdc] at z; cases z), hdc⟩, rk r'⟩
noncomputable def onAt {α : Type} (ρ : List V) (i : Nat) (a : Addr) (r : Res α) : Res α := (getv ρ i).bind fun v => bif isRef a v then r else .stuck
theorem onAt_ok {α : Type} {ρ : List V} {i : Nat} {a : Addr} {r : Res α} (h : onAt ρ i a r ≠ .stuck) : getv ρ i = .ok (.ref a) ∧ onAt ρ i a r = r := by
  unfold onAt at h ⊢
  cases hg : getv ρ i with
  | err => exact absurd hg getv_err
  | stuck => rw [hg] at h; exact absurd rfl h
  | ok v =>
    rw [hg] at h
    change (bif isRef a v then r else .stuck) ≠ .stuck at h
    show Res.ok v = _ ∧ (bif isRef a v then r else .stuck) = r
    cases hs : isRef a v with
    | false => rw [hs] at h; exact absurd rfl h
    | true => exact ⟨by rw [isRef_eq hs], rfl⟩
theorem onAt_eq {α : Type} {ρ : List V} {i : Nat} {a : Addr} {r : Res α} (h : getv ρ i = .ok (.ref a)) : onAt ρ i a r = r := by
  unfold onAt; rw [h]; show (bif isRef a (.ref a) then r else .stuck) = r; rw [isRef_ref]; rfl
noncomputable def unbD {Γ : Type} (i j k : Nat) : Γ → Dn BS (Out × List V) := fun _ ρ σ => onAt ρ k σ.D (.ok ((.next, (ρ.set i (.ref σ.C)).set j (.int σ.turn)), σ))
theorem sUnbowl {Γ : Type} {γ : Γ} {x y b : Str} {px py bp tpos pos : Pos} {kd : Nat} (i j k : Nat) (hF : FOk f) (hk : f.vars[k]? = some b := by rfl) (hi : f.vars[i]? = some x := by rfl) (hj : f.vars[j]? = some y := by rfl) (hk1 : f.cs.names.lookup x = some .local := by decide +kernel) (hk2 : f.cs.names.lookup y = some .local := by decide +kernel) (hC : f.isC = false := by rfl)
    (hsw : ∀ env, swapsWithSole [.Tuple [.Name x px, .Name y py] kd tpos] (.Name b bp) pos.line env = pure false := by intro; rfl) (hw : ∀ env, swappedStores [.Tuple [.Name x px, .Name y py] kd tpos] (.Name b bp) env = pure none := by intro; rfl) :
    SndS prog w G (RB G.g) f n (.Assign [.Tuple [.Name x px, .Name y py] kd tpos] (.Name b bp) pos) (unbD i j k γ) := SndG.mk fun L cl A outer s ρ σ Q E hA W K => by
  obtain ⟨hg, hu⟩ := onAt_ok K.ns
  have K := K.to hu
  refine Assign_Tuple ?_ (hsw _) (hw _)
  refine local_ hF hk W hg fun vv r => ?_
  cases r.inj_ref
  obtain ⟨tk, hL⟩ := W.cal.rep.bowl
  rw [assign_Tuple]
  refine wpAny_bind (wpAny_standAt ?_)
  unfold unpack
  have hn : (assignEach [.Name x px, .Name y py] (f.env L cl)).length = ([.ref σ.1.C, .int σ.1.turn tk] : List Value).toArray.size := rfl
  rw [hn]
  refine wpAny_bind (wpAny_holding (kun_itemsOf hA.handled hL fun h₂ ex => ?_))
  have st := StaysIn.of_ext ex
  have Wd := W.stays st
  refine wpAny_assignInOrder_more (assign_Name (store_ (s := ⟨_, _, _, _, _⟩) Wd hC hF.nd hi hk1 hF.kind (.ref σ.1.C) fun h₃ tk₃ W₃ S₃ => ?_))
  refine wpAny_assignInOrder_more (assign_Name (store_ (s := ⟨_, _, _, _, _⟩) W₃ hC hF.nd hj hk2 hF.kind (.int _ _) fun h₄ tk₄ W₄ S₄ => ?_))
  refine wpAny_assignInOrder_none ?_
  exact K.ok _ _ _ .next _ _ rfl W₄ (((Stp.of_stays st).trans Wd S₃).trans W₃ S₄) trivial
noncomputable def bowl1D {Γ : Type} (F : Γ → Dn BS V) (i : Nat) : Γ → Dn BS (Out × List V) := fun γ ρ σ => (F γ ρ σ).bind fun p => onAt ρ i p.2.D (onInt p.1 fun z => if 0 ≤ z then .ok ((.next, ρ), { p.2 with turn := z.toNat }) else .stuck)
theorem sBowl1 {Γ : Type} {γ : Γ} {b : Str} {bp cp sp pos : Pos} {kc : Nat} {e : Expr} {F : Γ → Den (RB G.g) V} (i : Nat) (hF : FOk f) (hx : jW prog w G (RB G.g) f n e (F γ)) (hi : f.vars[i]? = some b := by rfl)
    (hsw : ∀ env, swapsWith e (some (.Subscript (.Name b bp) (.Constant (.int 1) kc cp) sp)) pos.line env = pure false := by intro; rfl) :
    SndS prog w G (RB G.g) f n (.Assign [.Subscript (.Name b bp) (.Constant (.int 1) kc cp) sp] e pos) (bowl1D F i γ) := SndG.mk fun L cl A outer s ρ σ Q E hA W K => by
  refine wpAny_Assign_Subscript (hx.runS hA W W .refl K fun v σ₁ vv h₁ tk₁ e₁ W₁ _ S₁ r₁ K₁ => ?_) (hsw _)
  obtain ⟨hg, hu⟩ := onAt_ok K₁.ns
  have K₁ := K₁.to hu
  obtain ⟨z, rfl, hz⟩ := onInt_ne K₁.ns
  obtain ⟨t, rfl⟩ := r₁.int? rfl
  have h0 : 0 ≤ z := Decidable.byContradiction fun q => hz (if_neg q)
  have K₁ := K₁.to (if_pos h0)
  clear hz K
  refine local_ (s := ⟨_, _, _, _, _⟩) hF hi W₁ hg fun vv r => ?_
  cases r.inj_ref
  obtain ⟨tk, hL⟩ := W₁.cal.rep.bowl
  refine wpAny_Constant_int ?_
  refine wpAny_setItem_list (s := ⟨_, _, _, _, _⟩) hL (Int.le_of_lt Int.zero_lt_one) (by decide) (Int.ofNat_lt.mpr (Nat.lt_succ_self 1)) fun h' hL' hs => ?_
  obtain ⟨z, rfl⟩ := Int.eq_ofNat_of_zero_le h0
  obtain ⟨W2, S2⟩ := Wf.bowled (t := z) (tk := t) W₁ hL' hs
  exact K₁.ok _ _ ({ σ₁.1 with turn := z }, σ₁.2) .next _ _ rfl W2 (S₁.trans W₁ S2) trivial
noncomputable def cellD {Γ : Type} (i j : Nat) : Γ → Dn BS V := fun _ ρ σ => onAt ρ i σ.C ((getv ρ j).bind fun u => onInt u fun z => if 0 ≤ z ∧ z < (σ.cells.length : Int) then .ok (.int (σ.cells.getD z.toNat 0), σ) else .stuck)
theorem eCell {Γ : Type} {γ : Γ} {x y : Str} {xp yp pos : Pos} (i j : Nat) (hF : FOk f) (hi : f.vars[i]? = some x := by rfl) (hj : f.vars[j]? = some y := by rfl) :
    jW prog w G (RB G.g) f n (.Subscript (.Name x xp) (.Name y yp) pos) (cellD i j γ) := Snd.mk fun L cl A outer s ρ σ Q E hA W K => by
  obtain ⟨hg, hu⟩ := onAt_ok K.ns
  have K := K.to hu
  cases hg2 : getv ρ j with
  | err => exact absurd hg2 getv_err
  | stuck => rw [hg2] at K; exact absurd rfl K.ns
  | ok u =>
  rw [hg2] at K
  obtain ⟨z, rfl, hz⟩ := onInt_ne K.ns
  have h0 : 0 ≤ z ∧ z < (σ.1.cells.length : Int) := Decidable.byContradiction fun q => hz (if_neg q)
  have K := K.to (if_pos h0)
  clear hz hu
  refine Subscript_ (local_ hF hi W hg fun vv r => ?_)
  cases r.inj_ref
  refine local_ hF hj W hg2 fun uu r => ?_
  obtain ⟨t, rfl⟩ := r.int? rfl
  have hL := W.cal.rep.cells
  obtain ⟨u, hu⟩ := W.cal.rep.zs.get z.toNat _ (ints_getD h0.1 h0.2)
  refine tail_any (Heap.IsList.typeIs (s := ⟨_, _, _, _, _⟩) hL) slot_list_getitem.lookup (wpAny_getItem_list (s := ⟨_, _, _, _, _⟩) hL h0.1 (by have := W.cal.rep.z; omega) (by simpa using hu) ?_) (ops := [.ref _, .int z t]) rfl
  exact K.ok _ _ _ _ _ rfl W .refl (.int _ _)
noncomputable def cellLenD {Γ : Type} (i : Nat) : Γ → Dn BS V := fun _ ρ σ => onAt ρ i σ.C (.ok (.int σ.cells.length, σ))
theorem eCellLen {Γ : Type} {γ : Γ} {x ln : Str} {xp np pos : Pos} (i : Nat) (hF : FOk f) (hi : f.vars[i]? = some x := by rfl) (hxl : ln = "len" := by rfl) (e : nsIn KK mainGlobals ln = some none := by rfl) (hv : bootBuiltins ln = some (.builtin "len") := by rfl) (hn : ln ≠ "__name__" := by decide +kernel)
    (hk : f.cs.kind = .function := by rfl) (hx : f.cs.names.lookup ln = some .globalImplicit := by decide +kernel) (hd : (ln == ("__debug__" : Str)) = false := by decide +kernel)
    (h1 : ∀ env, starEach [.Name x xp] env = (false, eval (.Name x xp) env) :: starEach [] env := by intro; rfl) (h2 : ∀ env, ((backTo pos (starEach [.Name x xp] env)).any fun x => x.1) = false := by intro; rfl) :
    jW prog w G (RB G.g) f n (.Call (.Name ln np) [.Name x xp] [] pos) (cellLenD i γ) := Snd.mk fun L cl A outer s ρ σ Q E hA W K => by
  obtain ⟨hg, hu⟩ := onAt_ok K.ns
  have K := K.to hu
  refine wpAny_Call_NameR (name_blt W e hv hn ?_ hk hx hd)
  refine callWith_builtin (h2 _) ?_
  have hst : backTo pos (starEach [.Name x xp] (f.env L cl)) = (false, eval (.Name x xp) (f.env L cl)) :: backTo pos (starEach [] (f.env L cl)) := by rw [h1]; rfl
  rw [hst]
  refine evalArgs_plain ?_
  refine spliced_cons (local_ hF hi W hg fun vv r => ?_)
  cases r.inj_ref
  refine spliced_nil ?_
  have hL := W.cal.rep.cells
  have hlen := W.cal.rep.zs.length
  refine call_len_list hL (by have := W.cal.rep.z; simp only [List.size_toArray]; omega) ?_
  exact K.ok _ _ _ _ _ rfl W .refl (by rw [show (σ.2.toArray.size : Int) = (σ.1.cells.length : Int) by simp [hlen]]; exact .int _ _)
end
noncomputable def spoonZ (b : BS) (many : Int) : Int := if b.turn < b.cells.length then (if b.cells.getD b.turn 0 < 0 then -b.cells.getD b.turn 0 else b.cells.getD b.turn 0).fmod many else (3 * (b.turn : Int) + (b.turn : Int).fdiv 2 + 2).fmod many
noncomputable def spoonR (b : BS) (many : Int) : Res (V × BS) := if 0 < many ∧ b.turn ≤ 1000 then .ok (.int (spoonZ b many), { b with turn := b.turn + 1 }) else .stuck
noncomputable def fSpoon {Γ : Type} (_ : Γ) : List V → BS → Res (V × BS) := fun xs b => onCons xs fun x l => onCons l fun m l => onInt m fun many => onNil l (bif isRef b.D x then spoonR b many else .stuck)
section
variable {Γ : Type} {γ : Γ} {P : Res ((Out × List V) × BS) → Prop} {K : Γ → Dn BS (Out × List V)} {ρ : List V} {σ : BS} {i j k : Nat} {F : Γ → Dn BS V}
theorem fSpoon_eq' (b : BS) (many : Int) : fSpoon γ [.ref b.D, .int many] b = spoonR b many := by
  show (bif isRef b.D (.ref b.D) then spoonR b many else .stuck) = _; rw [isRef_ref]; rfl
theorem g_unb (h : getv ρ k = .ok (.ref σ.D)) (a : P (K γ ((ρ.set i (.ref σ.C)).set j (.int σ.turn)) σ)) : P (jO (unbD i j k) K γ ρ σ) := by
  show P ((onAt ρ k σ.D _).bind _); rw [onAt_eq h]; exact a
theorem g_bowl1 (z : Nat) (hF : F γ ρ σ = .ok (.int z, σ)) (h : getv ρ i = .ok (.ref σ.D)) (a : P (K γ ρ { σ with turn := z })) : P (jO (bowl1D F i) K γ ρ σ) := by
  show P (((F γ ρ σ).bind _).bind _); rw [hF]; show P ((onAt ρ i σ.D (if 0 ≤ (z : Int) then Res.ok ((Out.next, ρ), { σ with turn := z }) else .stuck)).bind _); rw [onAt_eq h, if_pos (Int.natCast_nonneg z)]; exact a
theorem e_cellLen (h : getv ρ i = .ok (.ref σ.C)) : cellLenD i γ ρ σ = .ok (.int σ.cells.length, σ) := onAt_eq h
theorem e_cell (n : Nat) (h : getv ρ i = .ok (.ref σ.C)) (hj : getv ρ j = .ok (.int n)) (hn : n < σ.cells.length) : cellD i j γ ρ σ = .ok (.int (σ.cells.getD n 0), σ) := by
  show onAt ρ i σ.C _ = _; rw [onAt_eq h, hj]; exact if_pos ⟨Int.natCast_nonneg n, Int.ofNat_lt.mpr hn⟩
theorem e_absint {z : Int} (h : F γ ρ σ = .ok (.int z, σ)) : eAbsD (jM (eInt1D (jM F lNilD)) lNilD) γ ρ σ = .ok (.int (if z < 0 then -z else z), σ) := by
  show (((((F γ ρ σ).bind _).bind _).bind _).bind _) = _; rw [h]; rfl
end
section
variable {w : World} {G : Gd (KF w.params)} {Γ : Type} {γ : Γ}
set_option maxHeartbeats 4000000
theorem fs_spoon : FS PW w G (RB G.g) 265 (3 + 1) (fSpoon γ) := by
  refine fs_of γ ["bowl", "many", "cells", "turn"] 2 rfl rfl ⟨by decide +kernel, rfl, by decide +kernel⟩ (fun hF => (jB (sUnbowl 2 3 0 hF) (jB (sBowl1 0 hF (kD jP (jA 3 hF) jG)) (jB (sRet (ifexp_ (jI op_lt (jA 3 hF) (eCellLen 2 hF) rfl) (kD op_mod (eAbs (jC (eInt1 (jC (eCell 2 3 hF) jK)) jK)) (jA 1 hF)) (kD op_mod (kD jP (kD jP (kD op_mul jG (jA 3 hF)) (kD op_div (jA 3 hF) jG)) jG) (jA 1 hF)))) jF)))) (args2 fun _ _ => rfl) (kindLoc (by decide +kernel)) (by decide) rfl rfl ?_
  intro xs b hS
  obtain ⟨x, _, rfl, h1⟩ := jN hS
  obtain ⟨_, _, rfl, h2⟩ := jN h1
  obtain ⟨many, rfl, h3⟩ := onInt_ne h2
  obtain ⟨rfl, h4⟩ := onNil_ne h3
  have hx : isRef b.D x = true := by
    cases hr : isRef b.D x with
    | true => rfl
    | false => rw [hr] at h4; exact absurd rfl h4
  cases isRef_eq hx
  clear h1 h2 h3
  rw [fSpoon_eq'] at hS
  have hz : 0 < many ∧ b.turn ≤ 1000 := Decidable.byContradiction fun q => hS (if_neg q)
  refine ⟨rfl, (show Ev (spoonR b many) _ from ?_).trans (fSpoon_eq' b many).symm⟩
  rw [spoonR, if_pos hz]
  clear hS h4 hx
  obtain ⟨z1, z2⟩ := hz
  have e2 : many ≠ 0 := fun e => Int.lt_irrefl 0 (e ▸ z1)
  have e4 : b.turn ≤ 4096 := Nat.le_trans z2 (by decide)
  refine g_unb (σ := b) rfl (g_bowl1 (b.turn + 1) (e_bin rfl rfl rfl) rfl ?_)
  by_cases hc : b.turn < b.cells.length
  · rw [spoonZ, if_pos hc]
    exact jQ (e_ifT (jJ rfl (e_cellLen rfl) (ev_lt hc)) (e_bin (e_absint (e_cell b.turn rfl rfl hc)) rfl (if_pos e2))) rfl
  · rw [spoonZ, if_neg hc]
    exact jQ (e_ifF (jJ rfl (e_cellLen rfl) (ev_nlt hc)) (e_bin (e_bin (e_bin (e_bin rfl rfl rfl) (e_bin rfl rfl (if_pos (⟨by decide, e4, by decide⟩ : (2 : Int) ≠ 0 ∧ (b.turn : Int).natAbs ≤ 4096 ∧ (2 : Int).natAbs ≤ 4096))) rfl) rfl rfl) rfl (if_pos e2))) rfl
end
section
variable {prog : Program} {w : World} {KK : Frag} {G : Gd KK} {Sy : Type} {R : StRep Sy} {f : Fn} {n : Nat}
noncomputable def Soft {Sy : Type} (R : StRep Sy) : Prop := ∀ (σ : R.T) (h h' : Heap), R.rep σ h → Keep [] h h' → R.rep σ h'
theorem softB (g : Heap) : Soft (RB g) := fun _ _ _ r k => BRep.soft r k
theorem Wf.soft {L : Addr} {cl : Cx} {outer : List Env} {h h' : Heap} {ρ : List V} {σ : R.T} (hR : Soft R) (W : Wf G R (f.env L cl) f.vars outer h ρ σ) {τ : RU.T} (c : Cal G RU outer h' τ) (k : Keep [] h h') : Wf G R (f.env L cl) f.vars outer h' ρ σ :=
  W.called ⟨c.base, c.ff, W.cal.nf, hR _ _ _ W.cal.rep k⟩ (k.mono fun _ z => nomatch z) (.refl _ _)
theorem softCall {L : Addr} {cl : Cx} {A : Around} {outer : List Env} {s : Shared} {ρ : List V} {σ : R.T} {x tn pn : Str} {np tp pp pos : Pos} {fa : Addr} {m : Nat} {F : List V → Unit → Res (V × Unit)} {a b v : V} {it ip : Nat} {Q : Value → Shared → Prop} {E : Value → Shared → Prop} (hR : Soft R) (hF : FOk f) (hf : FS prog w G RU fa m F) (hm : m ≤ n)
    (hit : f.vars[it]? = some tn) (hip : f.vars[ip]? = some pn) (ha : getv ρ it = .ok a) (hb : getv ρ ip = .ok b) (fla : flat1 a = true) (flb : flat1 b = true) (hv : F [a, b] () = .ok (v, ()))
    (e : nsIn KK mainGlobals x = some (some (.ref fa))) (hx : f.cs.names.lookup x = some .globalImplicit) (hd : (x == ("__debug__" : Str)) = false) (hkeep : keepIn KK (.ref fa) = true)
    (hA : AOk A outer n) (W : Wf G R (f.env L cl) f.vars outer s.heap ρ σ)
    (h : ∀ vv h' tk, Wf G R (f.env L cl) f.vars outer h' ρ σ → Keep [] s.heap h' → Rep [] h' vv v → Q vv { s with heap := h', toks := tk })
    (h1 : ∀ env, starEach [.Name tn tp, .Name pn pp] env = (false, eval (.Name tn tp) env) :: starEach [.Name pn pp] env := by intro; rfl) (h2 : ∀ env, ((backTo pos (starEach [.Name pn pp] env)).any fun x => x.1) = false := by intro; rfl) (h3 : ∀ env, starEach [.Name pn pp] env = (false, eval (.Name pn pp) env) :: starEach [] env := by intro; rfl) :
    wpAny (model prog w) A (eval (.Call (.Name x np) [.Name tn tp, .Name pn pp] [] pos) (f.env L cl)) Q E s := by
  refine wpAny_Call_NameR (name_glob W e ?_ hF.kind hx hd)
  refine callWith_K G.inK hkeep ?_ (h1 _) (h2 _)
  have hst : ∀ env, backTo pos (starEach [.Name tn tp, .Name pn pp] env) = (false, eval (.Name tn tp) env) :: backTo pos (starEach [.Name pn pp] env) := fun env => by rw [h1]; rfl
  have hst2 : ∀ env, backTo pos (starEach [.Name pn pp] env) = (false, eval (.Name pn pp) env) :: backTo pos (starEach [] env) := fun env => by rw [h3]; rfl
  rw [hst, hst2]
  refine spliced_cons (local_ hF hit W ha fun va ra => ?_)
  refine spliced_cons (local_ hF hip W hb fun vb rb => ?_)
  refine spliced_nil ?_
  refine ⟨fun b o e => W.cal.base b o (G.inK b o e), ?_⟩
  refine hf A outer s ((), ()) [va, vb] [a, b] Q E (hA.le hm) ⟨W.cal.base, W.cal.ff, fun e he b hb z => (nomatch z), trivial⟩ (.cons (ra.flat fla) (.cons (rb.flat flb) .nil)) (fun v' σ' vv h' tk q c k g r => ?_) (fun e h' tk q _ => absurd (hv.symm.trans q) (fun z => nomatch z)) (fun q => absurd (hv.symm.trans q) (fun z => nomatch z))
  cases (Prod.mk.inj (Res.ok.inj (hv.symm.trans q))).1
  exact h vv h' tk (W.soft hR c k) k r
open Classical in
noncomputable def neD {S : Type} (Fh Fd : List V → Unit → Res (V × Unit)) (a b : V) (σ : S) : Res (Bool × S) :=
  if flat1 a = true ∧ flat1 b = true ∧ ∃ v, flat3 v = true ∧ Fh [a, b] () = .ok (v, ()) ∧ Fd [a, b] () = .ok (v, ()) then .ok (false, σ) else .stuck
theorem neD_ne {S : Type} {Fh Fd : List V → Unit → Res (V × Unit)} {a b : V} {σ : S} (h : neD Fh Fd a b σ ≠ .stuck) : flat1 a = true ∧ flat1 b = true ∧ (∃ v, flat3 v = true ∧ Fh [a, b] () = .ok (v, ()) ∧ Fd [a, b] () = .ok (v, ())) ∧ neD Fh Fd a b σ = .ok (false, σ) := by
  unfold neD at h ⊢
  split at h
  · rename_i c; rw [if_pos c]; exact ⟨c.1, c.2.1, c.2.2, rfl⟩
  · exact absurd rfl h
noncomputable def neFD {Γ S : Type} (Fh Fd : Γ → List V → Unit → Res (V × Unit)) (it ip : Nat) : Γ → Dn S Bool := fun γ ρ σ => (getv ρ it).bind fun a => (getv ρ ip).bind fun b => neD (Fh γ) (Fd γ) a b σ
theorem tNeFs {Γ : Type} {γ : Γ} {x y tn pn : Str} {np tp pp cp np2 tp2 pp2 cp2 pos : Pos} {fa fb : Addr} {m m2 : Nat} {Fh Fd : Γ → List V → Unit → Res (V × Unit)} (it ip : Nat) (hR : Soft R) (hF : FOk f) (hf : FS prog w G RU fa m (Fh γ)) (hg : FS prog w G RU fb m2 (Fd γ)) (hm : m ≤ n := by omega) (hm2 : m2 ≤ n := by omega) (hit : f.vars[it]? = some tn := by rfl) (hip : f.vars[ip]? = some pn := by rfl)
    (e : nsIn KK mainGlobals x = some (some (.ref fa)) := by rfl) (hx : f.cs.names.lookup x = some .globalImplicit := by decide +kernel) (hd : (x == ("__debug__" : Str)) = false := by decide +kernel) (hkeep : keepIn KK (.ref fa) = true := by rfl)
    (e2 : nsIn KK mainGlobals y = some (some (.ref fb)) := by rfl) (hx2 : f.cs.names.lookup y = some .globalImplicit := by decide +kernel) (hd2 : (y == ("__debug__" : Str)) = false := by decide +kernel) (hkeep2 : keepIn KK (.ref fb) = true := by rfl)
    (hb : behindInMarks .NotEq (.Call (.Name y np2) [.Name tn tp2, .Name pn pp2] [] cp2) = false := by rfl)
    (h1 : ∀ env, starEach [.Name tn tp, .Name pn pp] env = (false, eval (.Name tn tp) env) :: starEach [.Name pn pp] env := by intro; rfl) (h2 : ∀ env, ((backTo cp (starEach [.Name pn pp] env)).any fun x => x.1) = false := by intro; rfl) (h3 : ∀ env, starEach [.Name pn pp] env = (false, eval (.Name pn pp) env) :: starEach [] env := by intro; rfl)
    (h4 : ∀ env, starEach [.Name tn tp2, .Name pn pp2] env = (false, eval (.Name tn tp2) env) :: starEach [.Name pn pp2] env := by intro; rfl) (h5 : ∀ env, ((backTo cp2 (starEach [.Name pn pp2] env)).any fun x => x.1) = false := by intro; rfl) (h6 : ∀ env, starEach [.Name pn pp2] env = (false, eval (.Name pn pp2) env) :: starEach [] env := by intro; rfl) :
    SndT prog w G R f n (.Compare (.Call (.Name x np) [.Name tn tp, .Name pn pp] [] cp) [.NotEq] [.Call (.Name y np2) [.Name tn tp2, .Name pn pp2] [] cp2] pos) (neFD Fh Fd it ip γ) := Snd.mk fun L cl A outer s ρ σ Q E hA W K => by
  have K : Kont G R f L cl outer rdB s.heap σ ρ s ((getv ρ it).bind fun a => (getv ρ ip).bind fun b => neD (Fh γ) (Fd γ) a b σ.1) Q E := K
  cases ha : getv ρ it with
  | err => exact absurd ha getv_err
  | stuck => rw [ha] at K; exact absurd rfl K.ns
  | ok a =>
  rw [ha] at K
  cases hbv : getv ρ ip with
  | err => exact absurd hbv getv_err
  | stuck => rw [hbv] at K; exact absurd rfl K.ns
  | ok b =>
  rw [hbv] at K
  obtain ⟨fla, flb, ⟨v, fl3, q1, q2⟩, hu⟩ := neD_ne K.ns
  have K := K.to hu
  refine wpAny_isTrue_Compare1 (softCall hR hF hf hm hit hip ha hbv fla flb q1 e hx hd hkeep hA W (fun vv h₁ tk₁ W₁ k₁ r₁ => ?_) h1 h2 h3) hb
  refine softCall (s := ⟨_, _, _, _, _⟩) hR hF hg hm2 hit hip ha hbv fla flb q2 e2 hx2 hd2 hkeep2 hA W₁ (fun vv2 h₂ tk₂ W₂ k₂ r₂ => ?_) h4 h5 h6
  refine rcne_same (A := A) (s := ⟨h₂, s.gens, s.drawn, tk₂, s.os⟩) (r₁.keep k₂ (.refl _ _) fun b hb => nomatch hb) r₂ fl3 (by have := hA.units; omega) prog w E _ ?_
  refine wpAny_truthy_bool ?_
  exact K.ok _ _ _ _ _ rfl W₂ ⟨Keep.mono (k₁.trans (Grow.refl [] _) k₂) (fun _ z => nomatch z), Grow.refl _ _⟩ rfl
noncomputable def topD {Γ S : Type} (F : Γ → Dn S V) (tab : List (List UInt8)) : Γ → Dn S V := fun γ ρ σ => (F γ ρ σ).bind fun p => onInt p.1 fun i => if 0 ≤ i ∧ i < (tab.length : Int) then .ok (.bytes (tab.getD i.toNat []), p.2) else .stuck
theorem eTop {Γ : Type} {γ : Γ} {x : Str} {np pos : Pos} {e : Expr} {F : Γ → Den R V} {ta : Addr} {tab : List (List UInt8)} {vs : List Value} {cnt : Nat} {od : Option Addr} {osl : Array (Option Value)} (he : jW prog w G R f n e (F γ))
    (hv : nsIn KK mainGlobals x = some (some (.ref ta))) (ho : KK.lookup ta = some ⟨.type "list", od, .seq vs.toArray cnt, osl⟩) (hlen : vs.length = tab.length) (hsm : tab.length ≤ 4096) (hvs : ∀ (i : Nat) (b : List UInt8), tab[i]? = some b → b.length ≤ 4096 ∧ ∃ u, vs[i]? = some (.bytes b.toArray u))
    (hk : f.cs.kind = .function := by rfl) (hx : f.cs.names.lookup x = some .globalImplicit := by decide +kernel) (hd : (x == ("__debug__" : Str)) = false := by decide +kernel)
    (hsub : ∀ o i, subscripted e false o i = operate [o, i] (getItem o i) := by intro _ _; rfl) :
    jW prog w G R f n (.Subscript (.Name x np) e pos) (topD F tab γ) := Snd.mk fun L cl A outer s ρ σ Q E hA W K => by
  refine Subscript_ (name_glob W hv ?_ hk hx hd)
  refine he.run hA W W .refl K fun v σ₁ vv h₁ tk₁ e₁ W₁ _ S₁ r₁ K₁ => ?_
  obtain ⟨i, rfl, hc⟩ := onInt_ne K₁.ns
  have hc : 0 ≤ i ∧ i < (tab.length : Int) := Decidable.byContradiction fun q => hc (if_neg q)
  have K₁ := K₁.to (if_pos hc)
  clear K
  obtain ⟨t, rfl⟩ := r₁.int? rfl
  obtain ⟨i, rfl⟩ := Int.eq_ofNat_of_zero_le hc.1
  have hlt : i < tab.length := Int.ofNat_lt.mp hc.2
  obtain ⟨hz, u, hu⟩ := hvs i _ (List.getElem?_eq_getElem hlt)
  have hL : h₁.IsList ta vs.toArray := ⟨_, W₁.cal.base _ _ (G.inK _ _ ho), rfl, _, rfl⟩
  refine tail_any (Heap.IsList.typeIs (s := ⟨_, _, _, _, _⟩) hL) slot_list_getitem.lookup (wpAny_getItem_list (s := ⟨_, _, _, _, _⟩) hL hc.1 (Int.ofNat_lt.mpr (Nat.lt_of_lt_of_le hlt (Nat.le_trans hsm (by decide)))) (by simpa using hu) ?_) (ops := [.ref _, .int i t]) (hsub _ _)
  refine K₁.ok _ _ _ _ _ rfl W₁ S₁ ?_
  show Rep _ _ _ (.bytes (tab.getD i []))
  rw [List.getD_eq_getElem?_getD, List.getElem?_eq_getElem hlt]
  exact .bytes _ _ hz
end
section
variable {prog : Program} {w : World} {KK : Frag} {G : Gd KK} {Sy : Type} {R : StRep Sy} {f : Fn} {n : Nat}
theorem intsAre_of {X : List Addr} {h : Heap} {l : List Int} : ∀ {vs : List Value}, RepL X h vs (l.map V.int) → IntsAre vs l := by
  induction l with
  | nil => intro vs r; rw [r.nil?]; exact .nil
  | cons i l ih =>
    intro vs r
    obtain ⟨v, ws, rfl, rv, rs⟩ := r.cons?
    obtain ⟨t, rfl⟩ := rv.int? rfl
    exact .cons _ _ (ih rs)
theorem intsAre_take {vs : List Value} {l : List Int} (k : Nat) : IntsAre vs l → IntsAre (vs.take k) (l.take k) := fun h => by
  induction h generalizing k with
  | nil => simp only [List.take_nil]; exact .nil
  | cons i t h ih =>
    cases k with
    | zero => exact .nil
    | succ k => exact .cons i t (ih k)
theorem get_new {h : Heap} {k : Nat} (hk : h.objs.size ≤ k) : h.get? k = none := by
  cases q : h.get? k with
  | none => rfl
  | some o => exact absurd (Heap.lt_size q) (Nat.not_lt.mpr hk)
theorem push_new (h : Heap) (o : Obj) (hd : o.isFreed = false) : h.StaysIn (h.push o) ∧ (h.push o).objs.size = h.objs.size + 1 ∧ (h.push o).get? h.objs.size = some o := ⟨StaysIn.push _ _, Heap.size_push _ _, Heap.get?_push_size _ hd⟩
theorem wp_newBowl {L : Addr} {cl : Cx} {A : Around} {outer : List Env} {s : Shared} {ρ : List V} {σ : RU.T} {x : Str} {xp p24 sp sp2 p0 lp : Pos} {k1 k2 : Nat} {i : Nat} {l : List Int} {Q : Value → Shared → Prop} {E : Value → Shared → Prop} (hF : FOk f) (hi : f.vars[i]? = some x)
    (W : Wf G RU (f.env L cl) f.vars outer s.heap ρ σ) (hg : getv ρ i = .ok (.lst (l.map V.int)))
    (h : ∀ (C D : Addr) h' tk vs' tk0, s.heap.StaysIn h' → s.heap.get? C = none → s.heap.get? D = none → D ≠ C → h'.IsList C (vs' : List Value).toArray → IntsAre vs' (l.take 24) → h'.IsList D ([.ref C, .int (0 : Nat) tk0] : List Value).toArray → Q (.ref D) { s with heap := h', toks := tk })
    (h1 : ∀ env, starEach [.Subscript (.Name x xp) (.Slice none (some (.Constant (.int 24) k1 p24)) none sp) sp2, .Constant (.int 0) k2 p0] env = [(false, eval (.Subscript (.Name x xp) (.Slice none (some (.Constant (.int 24) k1 p24)) none sp) sp2) env), (false, eval (.Constant (.int 0) k2 p0) env)] := by intro; rfl) :
    wpAny (model prog w) A (eval (.List [.Subscript (.Name x xp) (.Slice none (some (.Constant (.int 24) k1 p24)) none sp) sp2, .Constant (.int 0) k2 p0] lp) (f.env L cl)) Q E s := by
  refine List_ ?_
  have hst : backTo lp (starEach [.Subscript (.Name x xp) (.Slice none (some (.Constant (.int 24) k1 p24)) none sp) sp2, .Constant (.int 0) k2 p0] (f.env L cl)) = (false, eval (.Subscript (.Name x xp) (.Slice none (some (.Constant (.int 24) k1 p24)) none sp) sp2) (f.env L cl)) :: backTo lp [(false, eval (.Constant (.int 0) k2 p0) (f.env L cl))] := by rw [h1]; rfl
  rw [hst]
  refine spliced_cons ?_
  refine Subscript_ (local_ hF hi W hg fun vv r => ?_)
  refine wpAny_Slice (wpAny_evalPart_none (wpAny_evalPart_some (wpAny_Constant_int (wpAny_evalPart_none ?_))))
  obtain ⟨ad, o, nn, vs, rfl, ho, hc, hd, _, hl, hz⟩ := r.lst? rfl
  rw [List.length_map] at hz
  have hz' : vs.length ≤ 4096 := by rw [hl.length, List.length_map]; exact hz
  have hL : s.heap.IsList ad vs.toArray := ⟨o, ho, hc, nn, hd⟩
  refine tail_any (Heap.IsList.typeIs (s := ⟨_, _, _, _, _⟩) (hL.push _)) slot_list_getitem.lookup (wpAny_getItem_list_slice (s := ⟨_, _, _, _, _⟩) (hL.push _) (Heap.IsSliceOf.new ..) .none (.int _ _) .none (by simp) ?_ (by simp only [List.size_toArray, sizeLine_eq]; omega)) (ops := [.ref _, .ref ad]) rfl
  have e : slicePick vs.toArray none (some 24) none = (vs.take 24).toArray := by
    rw [slicePick_plain]; exact congrArg List.toArray (cut_take vs 24)
  rw [e]
  refine spliced_cons (show wpAny _ _ (eval (.Constant (.int 0) k2 p0) (f.env L cl)) _ _ _ from wpAny_Constant_int (spliced_nil (wpAny_newList ?_ (by rw [sizeLine_eq]; exact Nat.le_of_ble_eq_true rfl))))
  have r1 := push_new s.heap { cls := .type "slice", data := .fields #[.none, .int 24 s.toks, .none] } rfl
  generalize s.heap.push { cls := .type "slice", data := .fields #[.none, .int 24 s.toks, .none] } = H1 at r1 ⊢
  have r2 := push_new H1 { cls := .type "list", data := .seq (vs.take 24).toArray } rfl
  generalize H1.push { cls := .type "list", data := .seq (vs.take 24).toArray } = H2 at r2 ⊢
  have st3 := fun o => StaysIn.push H2 o
  exact h H1.objs.size H2.objs.size _ _ (vs.take 24) _ (fun b o e => st3 _ _ _ (r2.1 _ _ (r1.1 _ _ e))) (get_new (r1.2.1 ▸ Nat.le_succ _)) (get_new (r2.2.1 ▸ r1.2.1 ▸ Nat.le_add_right _ 2)) (by rw [r2.2.1]; exact Nat.succ_ne_self _) ⟨_, st3 _ _ _ r2.2.2, rfl, 0, rfl⟩ (intsAre_take 24 (intsAre_of hl)) ⟨_, Heap.get?_push_size _ rfl, rfl, 0, rfl⟩
theorem Wf.setCell {L : Addr} {cl : Cx} {outer : List Env} {h h' : Heap} {ρ : List V} {σ : R.T} {i : Nat} {x : Str} {c : Addr} {v0 : Option Value} {vv : Value} {v : V} (W : Wf G R (f.env L cl) f.vars outer h ρ σ) (hnd : f.vars.Nodup) (hi : f.vars[i]? = some x) (hk : f.cs.names.lookup x = some .cell) (hc : (f.env L cl).cells.lookup x = some c)
    (hone : ∀ y c', y ≠ x → (f.env L cl).cells.lookup y = some c' → c' ≠ c) (hI : h.IsCell c v0) (hcf : c ∉ R.foot σ) (hgc : G.g.get? c = none) (r : Rep (R.foot σ) h vv v) (hI' : h'.IsCell c (some vv)) (hs : Heap.SameBut c h h') :
    Wf G R (f.env L cl) f.vars outer h' (ρ.set i v) σ ∧ Stp R [c] h σ h' σ := by
  obtain ⟨o0, ho0, hd0⟩ := hI
  have kp : Keep [c] h h' := Keep.of_same hs (.head _)
  have rk : ∀ {a : Value} {y : V}, Rep (R.foot σ) h a y → Rep (R.foot σ) h' a y := fun r => r.keep kp (.refl _ _) fun b hb => by
    rcases List.mem_singleton.mp hb with rfl
    exact .inr fun o xs n e z => by rw [ho0] at e; cases e; rw [hd0] at z; cases z
  have ne : ∀ {a : Addr} {o : Obj}, h.get? a = some o → (∀ v, o.data ≠ .cell v) → a ≠ c := fun {a o} e hd q => by rw [q, ho0] at e; cases e; exact hd _ hd0
  have nsk : ∀ {a m}, h.Ns a m → h'.Ns a m := fun {a m} ⟨o, es, ep, ho, hd, r⟩ => ⟨o, es, ep, (hs.2 _ (ne ho fun v z => by rw [hd] at z; cases z)).trans ho, hd, r⟩
  obtain ⟨L', m, e, hm⟩ := W.nsF
  obtain ⟨m', hm'⟩ := W.ns
  refine ⟨⟨W.above, ⟨fun b o e => (hs.2 b fun q => by rw [q, hgc] at e; cases e).trans (W.cal.base b o e), ?_, W.cal.nf, R.stable W.cal.rep fun a o e ha => (hs.2 a fun q => ?_).trans e⟩, W.top, ⟨L', m, e, nsk hm⟩, ⟨m', nsk hm'⟩, W.apart, fun j y u hj hu hne => ?_⟩, kp.mono fun b hb => List.mem_append_left _ hb, .refl _ _⟩
  · refine ff_mono (fun b o e hd => ?_) W.cal.ff
    by_cases q : b = c
    · obtain ⟨oc, hoc, hdc⟩ := hI'
      exact ⟨oc, q ▸ hoc, fun vs z => by rw [hdc] at z; cases z⟩
    · exact ⟨o, (hs.2 b q).trans e, hd⟩
  · rcases ha with ha | ⟨_, xs, n, hd⟩
    · exact hcf (q ▸ ha)
    · rw [q, ho0] at e; cases e; rw [hd0] at hd; cases hd
  · by_cases q : j = i
    · subst q
      have : y = x := Option.some.inj (hj.symm.trans hi)
      subst this
      have : u = v := by
        rw [List.getElem?_set] at hu
        simp only [if_true] at hu
        split at hu
        · exact (Option.some.inj hu).symm
        · cases hu
      subst this
      exact .inr ⟨hk, c, vv, hc, hcf, hI', rk r⟩
    · have hyx : y ≠ x := fun z => q (by
        subst z
        exact (List.getElem?_inj (List.getElem?_eq_some_iff.mp hj).1 hnd).mp (hj.trans hi.symm))
      rw [List.getElem?_set_ne (Ne.symm q)] at hu
      rcases W.var j y u hj hu hne with ⟨hk', m, vv', hn, hm, r'⟩ | ⟨hk', c', vv', hc', hx', ⟨oc, hoc, hdc⟩, r'⟩
      · exact .inl ⟨hk', m, vv', nsk hn, hm, rk r'⟩
      · exact .inr ⟨hk', c', vv', hc', hx', ⟨oc, (hs.2 _ (hone y c' hyx hc')).trans hoc, hdc⟩, rk r'⟩
end
section
variable {prog : Program} {w : World} {KK : Frag} {G : Gd KK} {n : Nat}
theorem law_of {fa : Addr} {oc : Value} {od : Option Addr} {osl : Array (Option Value)} {params : Arguments} {rest : List Stmt} {dV kV doc pm ct ccd : Value} {an : Option Addr} {nm cn : Str} {cs : Scope} (vars : List Str) {F : Den (RB G.g) (Out × List V)} {bs ss : Str} {bp xp p24 sp sp2 p0 lp ap : Pos} {k1 k2 : Nat}
    (ho : KK.lookup fa = some ⟨oc, od, .func (fnOf nm cn params (.Assign [.Name bs bp] (.List [.Subscript (.Name ss xp) (.Slice none (some (.Constant (.int 24) k1 p24)) none sp) sp2, .Constant (.int 0) k2 p0] lp) ap :: rest) cs dV kV doc pm an ccd ct), osl⟩) (hcd : codeIn KK ccd cn = true) (hF : FOk ⟨cn, cs, fa, ccd, ss :: bs :: vars, false⟩)
    (hb : FOk ⟨cn, cs, fa, ccd, ss :: bs :: vars, false⟩ → SndB prog w G (RB G.g) ⟨cn, cs, fa, ccd, ss :: bs :: vars, false⟩ n rest F)
    (hFv : ∀ (l : List Int) D C, l.length ≤ 100 → ∃ ρ' b', F (.lst (l.map V.int) :: .ref D :: List.replicate vars.length .undef) ⟨D, C, 0, l.take 24⟩ = .ok ((.ret (.bool true), ρ'), b'))
    (hbind : ∀ v : Value, bindArgs (fnOf nm cn params (.Assign [.Name bs bp] (.List [.Subscript (.Name ss xp) (.Slice none (some (.Constant (.int 24) k1 p24)) none sp) sp2, .Constant (.int 0) k2 p0] lp) ap :: rest) cs dV kV doc pm an ccd ct) ⟨[v], []⟩ = pure [(ss, v)])
    (hss : cs.names.lookup ss = some .local) (hbs : cs.names.lookup bs = some .cell) (hcells : ∀ L, cellsFrom L cs.names [] = [(bs, L)]) (hco : cs.isCoroutine = false) (hgen : cs.isGenerator = false)
    (hsw : ∀ env, swapsWith (.List [.Subscript (.Name ss xp) (.Slice none (some (.Constant (.int 24) k1 p24)) none sp) sp2, .Constant (.int 0) k2 p0] lp) (some (.Name bs bp)) ap.line env = pure false) :
    ∀ (A : Around) (l : List Env) (s : Shared) (vv : Value) (zs : List Int) (R : Result → Shared → Prop), AOk A l (n + 1) → G.g.StaysIn s.heap → s.heap.FunFrames G.g l → Rep [] s.heap vv (.lst (zs.map V.int)) → zs.length ≤ 100 →
      (∀ h' tk, G.g.StaysIn h' → h'.FunFrames G.g l → Keep [] s.heap h' → R (.ok (.ret (.bool true))) { s with heap := h', toks := tk }) → codeAny (model prog w) A (.call (.ref fa) ⟨[vv], []⟩) R s := by
  intro A l s vv zs R hA hbase hff hr hz hQ
  have hb := hb hF
  have hnd := hF.nd
  have hk := hF.kind
  have hc : Cal G RU l s.heap ((), ()) := ⟨hbase, hff, (fun e he b hb z => nomatch z), trivial⟩
  refine codeAny_call_cells (body := .Assign [.Name bs bp] (.List [.Subscript (.Name ss xp) (.Slice none (some (.Constant (.int 24) k1 p24)) none sp) sp2, .Constant (.int 0) k2 p0] lp) ap :: rest) (binds := [(ss, vv)]) (by have := hA.depth; omega) (hc.base _ _ (G.inK _ _ ho)) rfl (G.top.nolimit.keeps hc.base) (codeRec_of (fun b o e => hc.base b o (G.inK b o e)) hcd) rfl (hbind vv) rfl (fun x hx => ?_) (fun s₁ X => ?_) hco hgen hk
  · rcases List.mem_singleton.mp hx with rfl
    exact .inl hss
  obtain ⟨h₁, tk₁, rfl, hk₁⟩ := X.done
  let f : Fn := ⟨cn, cs, fa, ccd, ss :: bs :: vars, false⟩
  let cl : Cx := ⟨cellsFrom (s.heap.objs.size + 1) cs.names [], 0⟩
  have eenv : callEnvC (fnOf nm cn params (.Assign [.Name bs bp] (.List [.Subscript (.Name ss xp) (.Slice none (some (.Constant (.int 24) k1 p24)) none sp) sp2, .Constant (.int 0) k2 p0] lp) ap :: rest) cs dV kV doc pm an ccd ct) s.heap.objs.size fa = f.env s.heap.objs.size cl := rfl
  rw [eenv] at X ⊢
  have hns : h₁.Ns s.heap.objs.size (bindL (cs.names.lookup ·) ((f.vars.take 1).zip [vv]) fun _ => none) := X.toInCall.ns
  have hW : Wf G RU (f.env s.heap.objs.size cl) f.vars (f.env s.heap.objs.size cl :: l) h₁ ([.lst (zs.map V.int)] ++ List.replicate (f.vars.length - 1) .undef) ((), ()) :=
    entered (f := f) (k := 1) rfl rfl hc (.cons hr .nil) rfl (by simp [f]) hnd hk (fun x hx => by
      have hx : x ∈ [ss] := hx
      rcases List.mem_singleton.mp hx with rfl
      exact .inl hss) hns hk₁ X.cell X.above
  have hcl : (f.env s.heap.objs.size cl).cells = [(bs, s.heap.objs.size + 1)] := hcells _
  obtain ⟨c0, o0, ho0, hd0⟩ : ∃ v0, h₁.IsCell (s.heap.objs.size + 1) v0 := ⟨_, X.cell bs _ (by rw [hcl]; simp [List.lookup])⟩
  have hcn : s.heap.get? (s.heap.objs.size + 1) = none := by
    cases q : s.heap.get? (s.heap.objs.size + 1) with
    | none => rfl
    | some o => exact absurd (Heap.lt_size q) (Nat.not_lt.mpr (Nat.le_succ _))
  have hLn : s.heap.get? s.heap.objs.size = none := by
    cases q : s.heap.get? s.heap.objs.size with
    | none => rfl
    | some o => exact absurd (Heap.lt_size q) (Nat.lt_irrefl _)
  have gn : ∀ {b}, s.heap.get? b = none → G.g.get? b = none := fun {b} e => by
    cases q : G.g.get? b with
    | none => rfl
    | some o => rw [hbase _ _ q] at e; cases e
  have eρ : ([.lst (zs.map V.int)] ++ List.replicate (f.vars.length - 1) .undef : List V) = .lst (zs.map V.int) :: .undef :: List.replicate vars.length .undef := by
    show _ :: List.replicate ((ss :: bs :: vars).length - 1) _ = _
    simp only [List.length_cons, Nat.add_sub_cancel]
    rfl
  rw [eρ] at hW
  refine wpAny_execs_cons (wpAny_Assign_Name ?_ (hsw _))
  refine wp_newBowl (s := ⟨h₁, s.gens, s.drawn, tk₁, s.os⟩) (i := 0) hF rfl hW rfl fun C D h₂ tk₂ vs' tk0 st hC hD hne hLC hI hLD => ?_
  dsimp only at st hC hD
  have nC : s.heap.get? C = none := by
    cases q : s.heap.get? C with
    | none => rfl
    | some o => rw [hk₁ _ _ q] at hC; cases hC
  have nD : s.heap.get? D = none := by
    cases q : s.heap.get? D with
    | none => rfl
    | some o => rw [hk₁ _ _ q] at hD; cases hD
  let τ : (RB G.g).T := (⟨D, C, 0, zs.take 24⟩, vs')
  have hR : (RB G.g).rep τ h₂ := ⟨⟨tk0, hLD⟩, hLC, hI, by show (zs.take 24).length ≤ 24; rw [List.length_take]; omega, gn nD, gn nC, hne⟩
  have W2 : Wf G (RB G.g) (f.env s.heap.objs.size cl) f.vars (f.env s.heap.objs.size cl :: l) h₂ (.lst (zs.map V.int) :: .undef :: List.replicate vars.length .undef) τ :=
    hW.turn (Keep.of_stays st) (fun b o e => st _ _ (hW.cal.base b o e)) (hW.cal.ff.of_keeps fun b o e _ => ⟨o, st b o e, rfl⟩) hR fun a ha => by
      have ha : a ∈ [D, C] := ha
      simp only [List.mem_cons, List.not_mem_nil, or_false] at ha
      rcases ha with rfl | rfl
      · exact hD
      · exact hC
  have hcf : (s.heap.objs.size + 1 : Nat) ∉ (RB G.g).foot τ := fun z => by
    have z : (s.heap.objs.size + 1 : Nat) ∈ [D, C] := z
    simp only [List.mem_cons, List.not_mem_nil, or_false] at z
    rcases z with z | z
    · rw [← z, ho0] at hD; cases hD
    · rw [← z, ho0] at hC; cases hC
  refine wpAny_storeName_cell (s := ⟨_, _, _, _, _⟩) hk hbs (by rw [hcl]; simp [List.lookup]) ⟨o0, st _ _ ho0, hd0⟩ fun h₃ hI3 hs3 => ?_
  obtain ⟨W3, S3⟩ := W2.setCell (i := 1) (x := bs) hnd rfl hbs (by rw [hcl]; simp [List.lookup]) (fun y c' hy hl => by
    rw [hcl] at hl
    simp only [List.lookup] at hl
    split at hl
    · rename_i hq; exact absurd (by simpa using hq) hy
    · cases hl) ⟨o0, st _ _ ho0, hd0⟩ hcf (gn hcn) (.ref D) hI3 hs3
  obtain ⟨ρ', b', hFe⟩ := hFv zs D C hz
  refine hb s.heap.objs.size cl (A.deeper (f.env s.heap.objs.size cl)) (f.env s.heap.objs.size cl :: l) ⟨h₃, s.gens, s.drawn, tk₂, s.os⟩ _ τ _ _ (AOk.deeper hA) W3 (fun o ρ'' σ' fl h₄ tk₄ e₄ W4 S4 r4 => ?_) (fun e h₄ tk₄ q _ => absurd (hFe.symm.trans q) (fun z => nomatch z)) (fun q => absurd (hFe.symm.trans q) (fun z => nomatch z))
  have e₄ := (Prod.mk.inj (Prod.mk.inj (Res.ok.inj (hFe.symm.trans e₄))).1).1
  subst e₄
  cases fl <;> first | exact r4.elim | skip
  cases r4
  refine hQ h₄ tk₄ W4.cal.base W4.cal.ff.2.2 fun b o e hb => ?_
  have n1 : b ≠ s.heap.objs.size + 1 := fun q => by rw [q, hcn] at e; cases e
  have e3 : h₃.get? b = some o := (hs3.2 b n1).trans (st _ _ (hk₁ _ _ e))
  refine S4.keep b o e3 fun z => ?_
  have z : b ∈ [s.heap.objs.size, D, C] := z
  simp only [List.mem_cons, List.not_mem_nil, or_false] at z
  rcases z with rfl | rfl | rfl
  · rw [hLn] at e; cases e
  · rw [nD] at e; cases e
  · rw [nC] at e; cases e
end
noncomputable def piecesT : List (List UInt8) := [[97], [98], [49], [46], [37], [42], [43], [45], [63], [91, 93, 97, 93], [93], [94], [36], [40], [41], [91], [37, 97], [37, 98, 40, 49], [37, 102, 91, 98, 93], [91, 94, 97, 45, 98, 37, 49, 93]]
noncomputable def lettersT : List (List UInt8) := [[97], [98], [49], [40]]
theorem join_method : ∀ (s : Shared) (X : List Addr) (a : Value), Rep X s.heap a (.bytes []) → s.TypeIs a "bytes" ∧ (∀ b, a = .ref b → ∃ ob, s.heap.get? b = some ob ∧ ob.dict = none) := fun s X a r => by
  obtain ⟨t, rfl, _⟩ := r.bytes? rfl
  exact ⟨typeIs_bytes _ _ _, fun b e => nomatch e⟩
section
variable {Γ : Type} {γ : Γ}
theorem spoon_int {x : V} {l : List V} {b b' : BS} (e : fSpoon γ l b = .ok (x, b')) : ∃ z, x = .int z := by
  have hS : fSpoon γ l b ≠ .stuck := fun q => by rw [q] at e; cases e
  obtain ⟨x, _, rfl, h1⟩ := jN hS
  obtain ⟨_, _, rfl, h2⟩ := jN h1
  obtain ⟨many, rfl, h3⟩ := onInt_ne h2
  obtain ⟨rfl, h4⟩ := onNil_ne h3
  change (bif isRef b.D x then spoonR b many else .stuck) = _ at e
  cases hr : isRef b.D x with
  | false => rw [hr] at e; cases e
  | true =>
    rw [hr] at e
    change spoonR b many = _ at e
    unfold spoonR at e
    split at e
    · cases e; exact ⟨_, rfl⟩
    · cases e
theorem spoon_flat {Fs : Γ → Dn BS (List V)} : ∀ (X X' : List Addr) (h : Heap) (vv : Value) (v : V) (ρ : List V) (σ σ' : BS), eCD fSpoon Fs γ ρ σ = .ok (v, σ') → rdV X h vv v → rdV X' h vv v := fun X X' h vv v ρ σ σ' e r => by
  obtain ⟨p, _, e⟩ := Res.bind_eq_ok e
  obtain ⟨z, rfl⟩ := spoon_int e
  obtain ⟨t, rfl⟩ := r.int? rfl
  exact .int _ _
noncomputable def spD (i : Nat) (m : Int) : Γ → Dn BS V := eCD fSpoon (jM (jY i) (jM (eIntD m) lNilD))
noncomputable def feText : Γ → Dn BS V := subD (listD (jM (eBytesD [97]) (jM (eBytesD [98]) (jM (eBytesD [49]) (jM (eBytesD [40]) lNilD))))) (spD 0 4)
noncomputable def fePat : Γ → Dn BS V := topD (spD 0 20) piecesT
theorem spoonZ_in (b : BS) (m : Nat) (h : 0 < m) : ∃ k, k < m ∧ spoonZ b m = (k : Nat) := by
  have k : ∀ z : Int, ∃ k, k < m ∧ z.fmod m = (k : Nat) := fun z => by
    obtain ⟨k, e⟩ := Int.eq_ofNat_of_zero_le (Int.fmod_nonneg_of_pos z (Int.ofNat_lt.mpr h))
    exact ⟨k, Int.ofNat_lt.mp (e ▸ Int.fmod_lt_of_pos z (Int.ofNat_lt.mpr h)), e⟩
  unfold spoonZ
  split
  · exact k _
  · exact k _
theorem e_spoon {b : BS} {ρ : List V} {i : Nat} {m : Int} (hi : getv ρ i = .ok (.ref b.D)) (h : 0 < m) (hz : b.turn ≤ 1000) : spD i m γ ρ b = .ok (.int (spoonZ b m), { b with turn := b.turn + 1 }) :=
  e_c (jD (by rw [jY, hi]; rfl) (jD rfl jX)) ((fSpoon_eq' b m).trans (if_pos ⟨h, hz⟩))
theorem e_spoonN (b : BS) {ρ : List V} {i : Nat} (m : Nat) {z : Int} (hm : z = m) (hi : getv ρ i = .ok (.ref b.D)) (h : 0 < m) (hz : b.turn ≤ 1000) : ∃ k, k < m ∧ spD i z γ ρ b = .ok (.int (k : Nat), { b with turn := b.turn + 1 }) :=
  let ⟨k, h1, h2⟩ := spoonZ_in b m h
  ⟨k, h1, by rw [hm, e_spoon hi (Int.ofNat_lt.mpr h) hz, h2]⟩
theorem pick_comp {Fe : Γ → Dn BS V} {tab : List (List UInt8)} (hFe : ∀ v (b : BS), b.turn ≤ 1000 → ∃ t ∈ tab, Fe γ [.ref b.D, v] b = .ok (.bytes t, { b with turn := b.turn + 1 })) (l : List V) : ∀ (b : BS), b.turn + l.length ≤ 1001 →
    ∃ (ts : List (List UInt8)) (b' : BS), compD (fun v => [.ref b.D] ++ [v]) (xNilD γ) (Fe γ) l b = .ok (ts.map V.bytes, b') ∧ ts.length = l.length ∧ (∀ x ∈ ts, x ∈ tab) ∧ b'.D = b.D ∧ b'.turn = b.turn + l.length := by
  induction l with
  | nil => exact fun b _ => ⟨[], b, rfl, rfl, (fun x hx => nomatch hx), rfl, rfl⟩
  | cons v l ih =>
    intro b hz
    rw [List.length_cons] at hz ⊢
    obtain ⟨t, ht, e⟩ := hFe v b (Nat.le_of_succ_le_succ (Nat.le_trans (Nat.succ_le_succ (Nat.le_add_right _ _)) hz))
    obtain ⟨ts, b', e1, e2, e3, e4, e5⟩ := ih { b with turn := b.turn + 1 } (by rw [Nat.add_assoc, Nat.add_comm 1]; exact hz)
    refine ⟨t :: ts, b', ?_, congrArg Nat.succ e2, fun x hx => (List.mem_cons.mp hx).elim (fun q => q ▸ ht) (e3 x), e4, by rw [e5, Nat.add_assoc, Nat.add_comm 1]⟩
    show (Fe γ [.ref b.D, v] b).bind _ = _
    rw [e]
    show (compD _ _ _ l { b with turn := b.turn + 1 }).bind _ = _
    rw [e1]; rfl
theorem feText_ok (v : V) (b : BS) (hz : b.turn ≤ 1000) : ∃ t ∈ lettersT, feText γ [.ref b.D, v] b = .ok (.bytes t, { b with turn := b.turn + 1 }) := by
  obtain ⟨k, hk, e⟩ := e_spoonN (γ := γ) (i := 0) (ρ := [.ref b.D, v]) b 4 (z := 4) rfl rfl (by decide) hz
  have hk : k < lettersT.length := hk
  refine ⟨lettersT[k], List.getElem_mem hk, e_sub (x := .lst (lettersT.map V.bytes)) rfl e ?_⟩
  exact (if_pos (c := 0 ≤ (k : Int)) (t := (lettersT.map V.bytes)[k]?) (e := none) (Int.natCast_nonneg k)).trans (by exact (List.getElem?_map (f := V.bytes) (l := lettersT)).trans (by rw [List.getElem?_eq_getElem hk]; rfl))
theorem fePat_ok (v : V) (b : BS) (hz : b.turn ≤ 1000) : ∃ t ∈ piecesT, fePat γ [.ref b.D, v] b = .ok (.bytes t, { b with turn := b.turn + 1 }) := by
  obtain ⟨k, hk, e⟩ := e_spoonN (γ := γ) (i := 0) (ρ := [.ref b.D, v]) b 20 (z := 20) rfl rfl (by decide) hz
  have hk : k < piecesT.length := hk
  refine ⟨piecesT.getD k [], by rw [List.getD_eq_getElem?_getD, List.getElem?_eq_getElem hk]; exact List.getElem_mem hk, ?_⟩
  show (spD 0 20 γ _ b).bind _ = _
  rw [e]
  exact if_pos ⟨Int.natCast_nonneg k, Int.ofNat_lt.mpr hk⟩
theorem flatten_len {k : Nat} {ts : List (List UInt8)} (h : ∀ x ∈ ts, x.length ≤ k) : ts.flatten.length ≤ k * ts.length := by
  induction ts with
  | nil => exact Nat.zero_le _
  | cons t ts ih =>
    rw [List.flatten_cons, List.length_append, List.length_cons, Nat.mul_add, Nat.mul_one, Nat.add_comm]
    exact Nat.add_le_add (ih fun x hx => h x (.tail _ hx)) (h t (.head _))
theorem bytesL_map (ts : List (List UInt8)) : bytesL (ts.map V.bytes) = some ts := by
  induction ts with
  | nil => rfl
  | cons t ts ih => show (bytesL (ts.map V.bytes)).map _ = _; rw [ih]; rfl
noncomputable def drawD (Fi : Γ → Dn BS (List V)) (Fe : Γ → Dn BS V) : Γ → Dn BS V := eMeth1D (eBytesD []) (eCompD Fi xNilD Fe [("bowl", 1)]) evJoin
theorem e_draw {Fi : Γ → Dn BS (List V)} {Fe : Γ → Dn BS V} {tab : List (List UInt8)} {ρ : List V} {b : BS} {k : Nat} (hk : k ≤ 6) (hb : getv ρ 1 = .ok (.ref b.D)) (hi : Fi γ ρ b = .ok (rangeL 0 k, { b with turn := b.turn + 1 })) (ht : b.turn ≤ 100) (hx : ∀ x ∈ tab, x.length ≤ 12) (hFe : ∀ v (b : BS), b.turn ≤ 1000 → ∃ t ∈ tab, Fe γ [.ref b.D, v] b = .ok (.bytes t, { b with turn := b.turn + 1 })) :
    ∃ (ts : List (List UInt8)) (b' : BS), drawD Fi Fe γ ρ b = .ok (.bytes ts.flatten, b') ∧ ts.length = k ∧ (∀ x ∈ ts, x ∈ tab) ∧ b'.D = b.D ∧ b'.turn = b.turn + 1 + k := by
  have hl : (rangeL 0 (k : Int)).length = k := by rw [rangeL_length, Int.sub_zero]; exact Int.toNat_natCast k
  obtain ⟨ts, b', e1, e2, e3, e4, e5⟩ := pick_comp hFe (rangeL 0 k) { b with turn := b.turn + 1 } (by rw [hl]; exact Nat.le_trans (Nat.add_le_add (Nat.add_le_add_right ht 1) hk) (Nat.le_of_ble_eq_true rfl))
  rw [hl] at e2 e5
  refine ⟨ts, b', ?_, e2, e3, e4, e5⟩
  have h1 : eCompD Fi xNilD Fe [("bowl", 1)] γ ρ b = .ok (.lst (ts.map V.bytes), b') := by
    show (getvs ρ [1]).bind _ = _
    rw [show getvs ρ [1] = .ok [.ref b.D] by show (getv ρ 1).bind _ = _; rw [hb]; rfl]
    show (Fi γ ρ b).bind _ = _
    rw [hi]
    refine (if_pos (by rw [hl]; exact Nat.le_trans hk (Nat.le_of_ble_eq_true rfl))).trans ?_
    rw [e1]; rfl
  show (eCompD Fi xNilD Fe [("bowl", 1)] γ ρ b).bind _ = _
  rw [h1]
  show (jV (evJoin (.bytes []) (.lst (ts.map V.bytes)))).bind _ = _
  have h2 : ts.flatten.length ≤ 4096 := Nat.le_trans (flatten_len fun x q => hx x (e3 x q)) (Nat.le_trans (Nat.mul_le_mul_left 12 (Nat.le_trans (Nat.le_of_eq e2) hk)) (Nat.le_of_ble_eq_true rfl))
  have h3 : evJoin (.bytes []) (.lst (ts.map V.bytes)) = some (.bytes ts.flatten) := by
    show (bytesL (ts.map V.bytes)).bind _ = _
    rw [bytesL_map]; exact if_pos h2
  rw [h3]; rfl
end
noncomputable def Plain : Prop := ∀ ts ps : List (List UInt8), ts.length ≤ 5 → (∀ x ∈ ts, x ∈ lettersT) → 1 ≤ ps.length → ps.length ≤ 6 → (∀ x ∈ ps, x ∈ piecesT) → ∃ v, flat3 v = true ∧ fHeard [.bytes ts.flatten, .bytes ps.flatten] () = .ok (v, ()) ∧ fDue () [.bytes ts.flatten, .bytes ps.flatten] () = .ok (v, ())
noncomputable def turnD : Unit → Dn BS (Out × List V) := jO (sSetD (drawD (iRangeD (jM (spD 1 6) lNilD)) feText) 3) (jO (sSetD (drawD (iRangeD (jM (binD (eIntD 1) (spD 1 6) evAdd) lNilD)) fePat) 4) (jO (sIfD (neFD (fun _ => fHeard) fDue 3 4) (jO (sRetD (eBoolD false)) bNilD) bNilD) bNilD))
theorem e_range {Γ S : Type} {γ : Γ} {F : Γ → Dn S V} {ρ : List V} {σ σ₁ : S} {k : Nat} (h : F γ ρ σ = .ok (.int (k : Nat), σ₁)) (hk : k ≤ 6) : iRangeD (jM F lNilD) γ ρ σ = .ok (rangeL 0 k, σ₁) := by
  show ((((F γ ρ σ).bind _)).bind _) = _; rw [h]
  show (jV (evRange [.int (k : Nat)])).bind _ = _
  rw [show evRange [.int (k : Nat)] = some (rangeL 0 k) from if_pos (by rw [Int.natAbs_natCast]; exact Nat.le_trans hk (Nat.le_of_ble_eq_true rfl))]; rfl
noncomputable def LJ (scr : V) (D : Addr) (l ρ : List V) (b : BS) : Prop := ∃ i x y, ρ = [scr, .ref D, i, x, y] ∧ b.D = D ∧ b.turn + 13 * l.length ≤ 26
theorem turn_le {b l : Nat} (h : b + 13 * (l + 1) ≤ 26) : b ≤ 13 ∧ b + 13 + 13 * l ≤ 26 := ⟨by omega, by omega⟩
theorem turn_ok (PL : Plain) {scr i x y : V} {b : BS} {l : List V} {Q P : Res ((Out × List V) × BS) → Prop} (ht : b.turn + 13 * (l.length + 1) ≤ 26) (q : FQ (LJ scr b.D) P l Q) : Q (turnD () [scr, .ref b.D, i, x, y] b) := by
  have h0 := (turn_le ht).1
  obtain ⟨k, hk, e1⟩ := e_spoonN (γ := ()) (i := 1) (ρ := [scr, .ref b.D, i, x, y]) b 6 (z := 6) rfl rfl (by decide) (Nat.le_trans h0 (Nat.le_of_ble_eq_true rfl))
  have hk := Nat.le_of_lt_succ hk
  obtain ⟨ts, b1, d1, l1, m1, D1, t1⟩ := e_draw (Fe := feText) (Nat.le_succ_of_le hk) rfl (e_range e1 (Nat.le_succ_of_le hk)) (Nat.le_trans h0 (Nat.le_of_ble_eq_true rfl)) (by decide) feText_ok
  have hb1 : b1.turn ≤ b.turn + 1 + 5 := t1 ▸ Nat.add_le_add_left hk _
  have h1 : b1.turn ≤ 13 + 1 + 5 := Nat.le_trans hb1 (Nat.add_le_add_right h0 6)
  refine kC d1 ?_
  show Q (jO _ _ () [scr, .ref b.D, i, .bytes ts.flatten, y] b1)
  rw [← D1] at q ⊢
  obtain ⟨j, hj, e2⟩ := e_spoonN (γ := ()) (i := 1) (ρ := [scr, .ref b1.D, i, .bytes ts.flatten, y]) b1 6 (z := 6) rfl rfl (by decide) (Nat.le_trans h1 (Nat.le_of_ble_eq_true rfl))
  have hj : 1 + j ≤ 6 := Nat.add_le_add_left (Nat.le_of_lt_succ hj) 1
  obtain ⟨ps, b2, d2, l2, m2, D2, t2⟩ := e_draw (k := 1 + j) (Fe := fePat) hj rfl (e_range (e_bin (Fl := eIntD 1) (x := .int 1) (ev := evAdd) rfl e2 (si (Int.natCast_add 1 j).symm)) hj) (Nat.le_trans h1 (Nat.le_of_ble_eq_true rfl)) (by decide) fePat_ok
  refine kC d2 ?_
  show Q (jO _ _ () [scr, .ref b1.D, i, .bytes ts.flatten, .bytes ps.flatten] b2)
  obtain ⟨v, v1, v2, v3⟩ := PL ts ps (Nat.le_trans (Nat.le_of_eq l1) hk) m1 (Nat.le_trans (Nat.le_add_right 1 j) (Nat.le_of_eq l2.symm)) (Nat.le_trans (Nat.le_of_eq l2) hj) m2
  have hb2 : b2.turn ≤ b.turn + 1 + 5 + 1 + 6 := Nat.le_trans (t2 ▸ Nat.add_le_add_left hj _) (Nat.add_le_add_right hb1 7)
  exact g_f (if_pos ⟨rfl, rfl, v, v1, v2, v3⟩) (jL (q.next _ _ ⟨_, _, _, rfl, D2, Nat.le_trans (Nat.add_le_add_right hb2 _) (turn_le ht).2⟩))
theorem pieces_top (P : Params) : ∃ cnt od osl vs, (KF P).lookup 258 = some ⟨.type "list", od, .seq (vs : List Value).toArray cnt, osl⟩ ∧ vs.length = piecesT.length ∧ ∀ (i : Nat) (b : List UInt8), piecesT[i]? = some b → b.length ≤ 4096 ∧ ∃ u, vs[i]? = some (.bytes b.toArray u) := by
  obtain ⟨cnt, od, osl, vs, h, B⟩ : ∃ cnt od osl vs, (KF P).lookup 258 = some ⟨.type "list", od, .seq (vs : List Value).toArray cnt, osl⟩ ∧ BsAre vs piecesT := ⟨_, _, _, _, rfl, by repeat constructor⟩
  exact ⟨cnt, od, osl, vs, h, B.length, fun i b e => ⟨(show ∀ b ∈ piecesT, b.length ≤ 4096 by decide) b (List.mem_of_getElem? e), B.at_ e⟩⟩
section
variable {w : World} {G : Gd (KF w.params)}
set_option maxHeartbeats 4000000
theorem law_walk (PL : Plain) : ∀ (A : Around) (l : List Env) (s : Shared) (vv : Value) (zs : List Int) (R : Result → Shared → Prop), AOk A l (180 + 1) → G.g.StaysIn s.heap → s.heap.FunFrames G.g l → Rep [] s.heap vv (.lst (zs.map V.int)) → zs.length ≤ 100 →
      (∀ h' tk, G.g.StaysIn h' → h'.FunFrames G.g l → Keep [] s.heap h' → R (.ok (.ret (.bool true))) { s with heap := h', toks := tk }) → codeAny (model PW w) A (.call (.ref 336) ⟨[vv], []⟩) R s := by
  obtain ⟨cnt, od, osl, vs, t1, t2, t3⟩ := pieces_top w.params
  refine law_of (n := 180) (F := jO (sForD (iRangeD (jM (eIntD 2) lNilD)) turnD 2) (jO (sRetD (eBoolD true)) bNilD) ()) ["turn", "text", "pattern"] rfl rfl ⟨by decide +kernel, rfl, by decide +kernel⟩ (fun hF => jB (sFor 2 hF (iRange rfl rfl rfl (jC jG jK) rfl (by decide +kernel)) 
    (jB (sSet 3 hF (eMeth1 (jZ (by decide)) (eComp [("bowl", 1)] ⟨by decide +kernel, rfl, by decide +kernel, by decide +kernel, by decide +kernel, by decide +kernel⟩
        (iRange rfl rfl rfl (jC (eC fs_spoon (jC (jA 1 hF) (jC jG jK))) jK) rfl (by decide +kernel)) (fun D vs => xNil)
        (fun D vs => sub_ (list_ (jC (jZ (by decide)) (jC (jZ (by decide)) (jC (jZ (by decide)) (jC (jZ (by decide)) jK))))) (Snd.lift (eC fs_spoon (jC (jA 0 ⟨by decide +kernel, rfl, by decide +kernel⟩) (jC jG jK))) spoon_flat (fun ob sl h => h))))
        FB.plainAttrs_bytes slot_b_join type_b_join (fun ρ σ v σ₁ e _ => by cases e; exact join_method) op_join))
    (jB (sSet 4 hF (eMeth1 (jZ (by decide)) (eComp [("bowl", 1)] ⟨by decide +kernel, rfl, by decide +kernel, by decide +kernel, by decide +kernel, by decide +kernel⟩
        (iRange rfl rfl rfl (jC (kD jP jG (eC fs_spoon (jC (jA 1 hF) (jC jG jK)))) jK) rfl (by decide +kernel)) (fun D vs => xNil)
        (fun D vs => eTop (tab := piecesT) (Snd.lift (eC fs_spoon (jC (jA 0 ⟨by decide +kernel, rfl, by decide +kernel⟩) (jC jG jK))) spoon_flat (fun ob sl h => h)) rfl t1 t2 (by decide) t3))
        FB.plainAttrs_bytes slot_b_join type_b_join (fun ρ σ v σ₁ e _ => by cases e; exact join_method) op_join))
    (jB (sIf (tNeFs 3 4 (softB _) hF fs_law_heard fs_law_due) (jB (sRet eBool) jF) jF) jF)))) (jB (sRet eBool) jF)) ?_ (fun v => rfl) (by decide +kernel) (by decide +kernel) (fun L => rfl) rfl rfl (fun _ => rfl)
  intro l D C hl
  refine g_for (P := fun X => ∃ ρ' b', X = .ok ((.ret (.bool true), ρ'), b')) [.int 0, .int 1] (LJ (.lst (l.map V.int)) D) rfl ⟨.undef, .undef, .undef, rfl, rfl, Nat.le_refl 26⟩ (fun v l ρ b hJ Q q => ?_) fun ρ b hJ => ⟨ρ, b, rfl⟩
  obtain ⟨i, x, y, rfl, rfl, ht⟩ := hJ
  exact turn_ok PL (i := v) ht q
end
theorem ite1 {α : Type} {C : α → Prop} {c : Prop} [Decidable c] {A B : α} (a : c → C A) (b : ¬c → C B) : C (if c then A else B) := by
  by_cases h : c
  · rw [if_pos h]; exact a h
  · rw [if_neg h]; exact b h
theorem ite2 {α β : Type} {C : α → β → Prop} {c c' : Prop} [Decidable c] [Decidable c'] {A B : α} {X Y : β} (e : c ↔ c') (a : c → C A X) (b : ¬c → C B Y) : C (if c then A else B) (if c' then X else Y) := by
  by_cases h : c
  · rw [if_pos h, if_pos (e.mp h)]; exact a h
  · rw [if_neg h, if_neg fun z => h (e.mpr z)]; exact b h
noncomputable def okText (text : List UInt8) : Prop := ∀ c ∈ text, c.toNat = 97 ∨ c.toNat = 98 ∨ c.toNat = 49 ∨ c.toNat = 40
noncomputable def okOct (o : Nat) : Prop := o = 97 ∨ o = 98 ∨ o = 49 ∨ o = 40 ∨ o = 0
theorem okText.at {text : List UInt8} (h : okText text) (i : Nat) : okOct (atN text i) := by
  by_cases hi : i < text.length
  · obtain ⟨c, r, hd, hat, hr⟩ := jT (pat := text) hi
    rw [hat]
    exact (h c (List.mem_of_mem_drop (i := i) (by rw [hd]; exact List.mem_cons_self ..))).imp id (·.imp id (·.imp id .inl))
  · rw [(jS (pat := text) hi).2]; exact .inr (.inr (.inr (.inr rfl)))
theorem atN_drop (l : List UInt8) (a i : Nat) : atN (l.drop a) i = atN l (a + i) := by
  unfold atN; rw [List.getD_eq_getElem?_getD, List.getD_eq_getElem?_getD, List.getElem?_drop]
theorem atN_take {l : List UInt8} {n i : Nat} (h : i < n) : atN (l.take n) i = atN l i := by
  unfold atN; rw [List.getD_eq_getElem?_getD, List.getD_eq_getElem?_getD, List.getElem?_take_of_lt h]
theorem fitsOne_two (x : UInt8) (o : Nat) : fitsOne [37, x] o = inClass o x.toNat := by
  by_cases h : x = 97
  · subst h; rfl
  · rw [fitsOne, if_neg fun e => h (List.cons.inj (List.cons.inj e).2).1, inClass, if_neg (c := (x.toNat : Int) = 97) fun e => h (UInt8.toNat_inj.mp (Int.ofNat_inj.mp (show ((x.toNat : Nat) : Int) = ((97 : UInt8).toNat : Nat) from e))), dec_cast]; rfl
theorem fitsOne_one (x : UInt8) (o : Nat) (h : x ≠ 46) : fitsOne [x] o = decide (x.toNat = o) := by
  rw [fitsOne, if_neg (c := [x] = [37, 97]) fun e => List.cons_ne_nil _ _ (List.cons.inj e).2.symm, decide_eq_false fun e => h (List.cons.inj e).1]; rfl
section
variable {pat body : List UInt8} {p0 o q : Nat}
theorem fits2 (ho : okOct o) (ha : ∀ q < body.length, atN body q = atN pat (p0 + q)) (h93 : atN pat (p0 + body.length) = 93) (hq : q < body.length) (h37 : atN pat (p0 + q) = 37) : fitsOne ((body.drop q).take 2) o = inClass o (atN pat (p0 + q + 1)) := by
  obtain ⟨c, r, hd, hat, hr⟩ := jT hq
  have hc : c = 37 := UInt8.toNat_inj.mp (hat.symm.trans ((ha q hq).trans h37))
  by_cases h1 : q + 1 < body.length
  · obtain ⟨d, r1, hd1, hat1, _⟩ := jT h1
    rw [hd, ← hr, hd1, hc]
    show fitsOne [37, d] o = _
    rw [fitsOne_two, ← hat1, ha (q + 1) h1]; rfl
  · rw [hd, ← hr, (jS h1).1, hc, show p0 + q + 1 = p0 + body.length from congrArg (p0 + ·) (Nat.le_antisymm hq (Nat.not_lt.mp h1)), h93]
    rcases ho with rfl | rfl | rfl | rfl | rfl <;> rfl
theorem fitB_inS (ho : okOct o) (ha : ∀ q < body.length, atN body q = atN pat (p0 + q)) (h93 : atN pat (p0 + body.length) = 93) (n : Nat) : ∀ {n' q : Nat}, body.length < q + n → body.length < q + n' → fitB body o n q = inS pat o (p0 + body.length) n' (p0 + q) := by
  induction n with
  | zero =>
    intro n' q h h'
    cases n' with
    | zero => rfl
    | succ n' => exact (if_neg fun z => Nat.lt_irrefl _ (Nat.lt_trans h (Nat.lt_of_add_lt_add_left z))).symm
  | succ n ih =>
    intro n' q h h'
    cases n' with
    | zero => exact if_neg (Nat.lt_asymm h')
    | succ n' =>
      have st : ∀ {k m}, body.length < q + (m + 1) → body.length < q + (k + 1) + m := fun {k m} h => Nat.lt_of_lt_of_le h (by rw [Nat.add_assoc]; exact Nat.add_le_add_left (by rw [Nat.add_right_comm]; exact Nat.succ_le_succ (Nat.le_add_left m k)) q)
      have go := fun k => ih (st (k := k) h) (st h')
      refine ite2 (C := fun a b : Bool => a = b) (Nat.add_lt_add_iff_left).symm (fun hq => ?_) fun _ => rfl
      rw [ha q hq]
      have e2 : ∀ {a b c d : Bool}, a = b → c = d → (a || c) = (b || d) := fun h h' => h ▸ h' ▸ rfl
      refine ite2 (C := fun a b : Bool => a = b) Iff.rfl (fun h37 => e2 (fits2 ho ha h93 hq h37) (go 1)) fun n37 => ite2 (C := fun a b : Bool => a = b) ⟨fun z => ?_, fun z => ?_⟩ (fun z => e2 ?_ (go 2)) fun _ => e2 (dec_cast _ _).symm (go 0)
      · exact ⟨(ha (q + 1) (Nat.lt_of_succ_lt z.2)).symm.trans z.1, Nat.add_lt_add_left z.2 p0⟩
      · have z2 := Nat.lt_of_add_lt_add_left (show p0 + (q + 2) < p0 + body.length from z.2)
        exact ⟨(ha (q + 1) (Nat.lt_of_succ_lt z2)).trans z.1, z2⟩
      · rw [dec_cast_le, dec_cast_le, ha (q + 2) z.2]; rfl
end
section
variable {pat : List UInt8} {p k o : Nat}
theorem setEnd_93 (n : Nat) : ∀ {p : Nat} {f : Bool} {k : Nat}, pat.length ≤ p + n → setEnd f (pat.drop p) = some k → ∃ j, k = j + 1 ∧ atN pat (p + j) = 93 ∧ (f = true → 0 < j) := by
  induction n with
  | zero => intro p f k h e; rw [List.drop_eq_nil_of_le (i := p) h] at e; cases f <;> cases e
  | succ n ih =>
    intro p f k h e
    by_cases hp : p < pat.length
    · rw [setEnd_at f hp] at e
      split at e
      · rename_i c; cases e; exact ⟨0, rfl, c.2, fun z => by rw [c.1] at z; cases z⟩
      · split at e
        · split at e
          · obtain ⟨z, hz, rfl⟩ := Option.map_eq_some_iff.mp e
            obtain ⟨j, rfl, hj, _⟩ := ih (Nat.le_trans h (by rw [Nat.add_assoc]; exact Nat.add_le_add_left (by rw [Nat.add_comm]; exact Nat.add_le_add_right (by decide) n) p)) hz
            exact ⟨j + 2, rfl, Nat.add_right_comm p 2 j ▸ hj, fun _ => Nat.succ_pos _⟩
          · cases e
        · obtain ⟨z, hz, rfl⟩ := Option.map_eq_some_iff.mp e
          obtain ⟨j, rfl, hj, _⟩ := ih (by rw [Nat.succ_add_eq_add_succ]; exact h) hz
          exact ⟨j + 1, rfl, Nat.add_right_comm p 1 j ▸ hj, fun _ => Nat.succ_pos _⟩
    · rw [(jS hp).1] at e; cases f <;> cases e
theorem setSize_93 (h : setSize (pat.drop p) = some k) : ∃ j, k = j + 2 ∧ atN pat (p + j) = 93 ∧ 0 < j ∧ (atN pat p = 94 → 1 < j) := by
  rw [setSize_at] at h
  split at h
  · obtain ⟨z, hz, rfl⟩ := Option.map_eq_some_iff.mp h
    obtain ⟨j, rfl, hj, h0⟩ := setEnd_93 _ (Nat.le_add_left _ _) hz
    exact ⟨j + 1, rfl, Nat.add_right_comm p 1 j ▸ hj, Nat.succ_pos _, fun _ => Nat.succ_lt_succ (h0 rfl)⟩
  · rename_i hn
    obtain ⟨z, hz, rfl⟩ := Option.map_eq_some_iff.mp h
    obtain ⟨j, rfl, hj, h0⟩ := setEnd_93 _ (Nat.le_add_left _ _) hz
    exact ⟨j, rfl, hj, h0 rfl, fun z => absurd z hn⟩
theorem set_body {j off : Nat} (ho : okOct o) (h93 : atN pat (p + 1 + j) = 93) (hl : p + 1 + j < pat.length) (h1 : 0 < off) (h2 : off ≤ j + 1) :
    fitB ((((pat.drop p).take (j + 2)).drop off).take (j + 1 - off)) o (((((pat.drop p).take (j + 2)).drop off).take (j + 1 - off)).length + 1) 0 = inS pat o (p + 1 + j) (p + 1 + j + 1) (p + off) := by
  obtain ⟨b, e⟩ : ∃ b, b = (((pat.drop p).take (j + 2)).drop off).take (j + 1 - off) := ⟨_, rfl⟩
  have hb : b.length = j + 1 - off := by
    rw [e, List.length_take, List.length_drop, List.length_take_of_le (by rw [List.length_drop]; exact Nat.le_sub_of_add_le (by rw [Nat.add_comm]; exact Nat.lt_of_le_of_lt (Nat.le_of_eq (Nat.add_right_comm p j 1)) hl)), Nat.min_eq_left (Nat.sub_le_sub_right (Nat.le_succ _) off)]
  have hat : ∀ q < b.length, atN b q = atN pat (p + off + q) := fun q hq => by
    rw [hb] at hq
    rw [e, atN_take hq, atN_drop, atN_take (by omega), atN_drop, Nat.add_assoc]
  have hp : p + off + b.length = p + 1 + j := by rw [hb]; omega
  rw [← e, ← hp]
  exact fitB_inS ho hat (hp ▸ h93) _ (Nat.lt_of_lt_of_le (Nat.lt_succ_self _) (Nat.le_add_left _ _)) (by omega)
theorem inSet_fits (ho : okOct o) (hp : p < pat.length) (h91 : atN pat p = 91) (hk : jU (pat.drop p) = some k) : inSet pat o p (p + k - 1) = fitsAll ((pat.drop p).take k) o := by
  have hz := singleSize_pos hk
  obtain ⟨c, r, hd, hat, hr⟩ := jT (pat := pat) hp
  rw [hd, singleSize_cons, ← hat, if_neg (by rw [h91]; decide), if_pos h91, ← hr] at hk
  obtain ⟨j, rfl, h93, j0, h94⟩ := setSize_93 hk
  have sl : ((pat.drop p).take (j + 2)).length = j + 2 := List.length_take_of_le hz.2
  have s0 : atN ((pat.drop p).take (j + 2)) 0 = 91 := by rw [atN_take (Nat.succ_pos _), atN_drop]; exact h91
  have s1 : atN ((pat.drop p).take (j + 2)) 1 = atN pat (p + 1) := by rw [atN_take (Nat.succ_lt_succ (Nat.succ_pos _)), atN_drop]
  have hlast : p + (j + 2) - 1 = p + 1 + j := Nat.add_right_comm p j 1
  have hl : p + 1 + j < pat.length := by have := hz.2; rw [List.length_drop] at this; omega
  rw [hlast, fitsAll, if_pos s0, fitsSet, s1, inSet, sl]
  by_cases e94 : atN pat (p + 1) = 94
  · rw [if_pos e94, decide_eq_true e94]
    have q := set_body ho h93 hl (off := 2) (by decide) (Nat.succ_le_succ (Nat.le_of_lt (h94 e94)))
    exact (congrArg (! ·) q.symm).trans (Bool.bne_true _).symm
  · rw [if_neg e94, decide_eq_false e94]
    have q := set_body ho h93 hl (off := 1) (by decide) (Nat.succ_le_succ (Nat.zero_le _))
    exact q.symm.trans (Bool.bne_false _).symm
theorem isSingle_fits {text : List UInt8} {s : Nat} (ht : okText text) (hp : p < pat.length) (hk : jU (pat.drop p) = some k) :
    isSingle text pat s p k = (decide (s < text.length) && fitsAll ((pat.drop p).take k) (atN text s)) := by
  by_cases hs : s < text.length
  · rw [isSingle, if_pos hs, decide_eq_true hs, Bool.true_and]
    obtain ⟨c, r, hd, hat, hr⟩ := jT (pat := pat) hp
    have hk0 := hk
    rw [hd, singleSize_cons, ← hat] at hk
    refine ite1 (C := fun b => b = _) (fun h => ?_) fun n46 => ite1 (C := fun b => b = _) (fun h => ?_) fun n37 => ite1 (C := fun b => b = _) (fun h => inSet_fits (ht.at s) hp h hk0) fun n91 => ?_
    · rw [if_neg (by rw [h]; decide), if_neg (by rw [h]; decide)] at hk
      cases hk
      rw [hd, UInt8.toNat_inj.mp (show c.toNat = (46 : UInt8).toNat from hat.symm.trans h)]; rfl
    · rw [if_pos h] at hk
      have h1 := singleSize_37 hk0 h
      obtain ⟨d, r', hd1, hat1, _⟩ := jT (pat := pat) h1
      rw [hr] at hd1
      rw [hd1] at hk
      cases hk
      rw [hd, hd1, hat1, UInt8.toNat_inj.mp (show c.toNat = (37 : UInt8).toNat from hat.symm.trans h)]
      exact (fitsOne_two d _).symm
    · rw [if_neg n37, if_neg n91] at hk
      cases hk
      rw [hd, hat]
      refine (fitsOne_one c (atN text s) fun e => n46 (by rw [hat, e]; rfl)).symm.trans ?_
      exact (if_neg fun e => n91 (hat.trans e)).symm
  · rw [isSingle, if_neg hs, decide_eq_false hs]; rfl
theorem runN_runL {text : List UInt8} (ht : okText text) (hp : p < pat.length) (hk : jU (pat.drop p) = some k) (n : Nat) : ∀ (s : Nat), text.length < s + n → runN text pat p k n s = runL ((pat.drop p).take k) text s := by
  induction n with
  | zero => exact fun s h => (runL_end (Nat.lt_asymm h)).symm
  | succ n ih =>
    intro s h
    show (if isSingle text pat s p k then runN text pat p k n (s + 1) + 1 else 0) = _
    rw [isSingle_fits ht hp hk]
    by_cases hs : s < text.length
    · rw [runL_step hs, decide_eq_true hs, Bool.true_and, ih (s + 1) (by rw [Nat.succ_add_eq_add_succ]; exact h)]
    · rw [runL_end hs, decide_eq_false hs]; rfl
end
theorem take1_iff {pat : List UInt8} {q : Nat} {c : UInt8} (hc : c.toNat ≠ 0) : (pat.drop q).take 1 = [c] ↔ atN pat q = c.toNat := by
  by_cases h : q < pat.length
  · obtain ⟨d, r, hd, hat, _⟩ := jT (pat := pat) h
    rw [hd, hat]
    exact ⟨fun e => congrArg UInt8.toNat (List.cons.inj e).1, fun e => by rw [UInt8.toNat_inj.mp e]; rfl⟩
  · obtain ⟨e1, e2⟩ := jS (pat := pat) h
    rw [e1, e2]
    exact ⟨(fun e => nomatch e), fun e => absurd e.symm hc⟩
noncomputable def encL (p : Nat × Option Int) : Int := p.2.elim (-1) fun e => if e < 0 then -2 else e - p.1
noncomputable def pst (p : Nat × Option Int) : Int := p.1
structure Rel (σ : MS) (h : Held) : Prop where
  lev : σ.level = h.length
  st : σ.starts.take h.length = h.map pst
  ln : σ.lengths.take h.length = h.map encL
  zs : σ.starts.length ≤ 1000
  zl : σ.lengths.length ≤ 1000
noncomputable def OkH (s : Nat) (h : Held) : Prop := ∀ p ∈ h, p.1 ≤ s ∧ ∀ e, p.2 = some e → 0 ≤ e → (p.1 : Int) ≤ e ∧ e ≤ s
theorem OkH.mono {s s' : Nat} {h : Held} (k : OkH s h) (hs : s ≤ s') : OkH s' h := fun p hp => ⟨Nat.le_trans (k p hp).1 hs, fun e he h0 => ⟨((k p hp).2 e he h0).1, Int.le_trans ((k p hp).2 e he h0).2 (Int.ofNat_le.mpr hs)⟩⟩
theorem take_le {α β : Type} {l : List α} {h : List β} {f : β → α} (e : l.take h.length = h.map f) : h.length ≤ l.length := by
  have := congrArg List.length e
  rw [List.length_map, List.length_take] at this
  exact this ▸ Nat.min_le_right _ _
theorem take_getD {α β : Type} {l : List α} {h : List β} {f : β → α} (e : l.take h.length = h.map f) {i : Nat} (hi : i < h.length) (d : α) (d' : β) : l.getD i d = f (h.getD i d') := by
  have q : (l.take h.length)[i]? = (h.map f)[i]? := by rw [e]
  rw [List.getElem?_take_of_lt hi, List.getElem?_map, List.getElem?_eq_getElem hi] at q
  rw [List.getD_eq_getElem?_getD, List.getD_eq_getElem?_getD, q, List.getElem?_eq_getElem hi]; rfl
theorem getD_mem {α : Type} {l : List α} {i : Nat} {d : α} (h : i < l.length) : l.getD i d ∈ l := by
  rw [List.getD_eq_getElem?_getD, List.getElem?_eq_getElem h]; exact List.getElem_mem h
theorem Rel.push {σ : MS} {h : Held} (r : Rel σ h) (hl : h.length ≤ 31) (x : Nat × Option Int) : Rel { σ with starts := σ.starts.take h.length ++ [pst x], lengths := σ.lengths.take h.length ++ [encL x], level := σ.level + 1 } (h ++ [x]) := by
  have key : ∀ {f : Nat × Option Int → Int} {l : List Int}, l.take h.length = h.map f → ((l.take h.length ++ [f x]).take (h ++ [x]).length = (h ++ [x]).map f) ∧ (l.take h.length ++ [f x]).length ≤ 1000 := fun {f l} e => by
    have q : l.take h.length ++ [f x] = (h ++ [x]).map f := by rw [e, List.map_append]; rfl
    rw [q]
    exact ⟨List.take_of_length_le (Nat.le_of_eq (List.length_map f)), by rw [List.length_map, List.length_append]; exact Nat.le_trans (Nat.succ_le_succ hl) (by decide)⟩
  exact ⟨by rw [List.length_append]; show σ.level + 1 = _; rw [r.lev]; rfl, (key r.st).1, (key r.ln).1, (key r.st).2, (key r.ln).2⟩
theorem Rel.pop {σ : MS} {h : Held} {x : Nat × Option Int} (r : Rel σ (h ++ [x])) : Rel { σ with level := σ.level - 1 } h := by
  have key : ∀ {f : Nat × Option Int → Int} {l : List Int}, l.take (h ++ [x]).length = (h ++ [x]).map f → l.take h.length = h.map f := fun {f l} e => by
    have q := congrArg (List.take h.length) e
    rw [List.take_take, List.length_append, Nat.min_eq_left (Nat.le_add_right _ _), List.map_append, List.take_left' (List.length_map f)] at q
    exact q
  refine ⟨?_, key r.st, key r.ln, r.zs, r.zl⟩
  have := r.lev
  rw [List.length_append] at this
  show σ.level - 1 = _
  rw [this]; exact Int.add_sub_cancel (h.length : Int) 1
theorem set_self {α : Type} {l : List α} {i : Nat} {a d : α} (h : l.getD i d = a) : l.set i a = l := by
  apply List.ext_getElem?
  intro j
  by_cases e : i = j
  · subst e
    by_cases hi : i < l.length
    · rw [List.getElem?_set_self hi, List.getElem?_eq_getElem hi]
      rw [List.getD_eq_getElem?_getD, List.getElem?_eq_getElem hi] at h
      exact congrArg some h.symm
    · rw [List.set_eq_of_length_le (Nat.not_lt.mp hi)]
  · rw [List.getElem?_set_ne e]
theorem Rel.set {σ : MS} {h : Held} (r : Rel σ h) {i : Nat} (hi : i < h.length) {b : Nat} (hb : (h.getD i (0, none)).1 = b) (o : Option Int) : Rel { σ with lengths := σ.lengths.set i (encL (b, o)) } (h.set i (b, o)) := by
  refine ⟨by rw [List.length_set]; exact r.lev, ?_, ?_, r.zs, by show (σ.lengths.set i _).length ≤ 1000; rw [List.length_set]; exact r.zl⟩
  · rw [List.length_set, List.map_set]
    refine r.st.trans (set_self (d := pst (0, none)) ?_).symm
    rw [List.getD_eq_getElem?_getD, List.getElem?_map, List.getElem?_eq_getElem hi]
    rw [List.getD_eq_getElem?_getD, List.getElem?_eq_getElem hi] at hb
    exact congrArg Int.ofNat hb
  · show (σ.lengths.set i _).take _ = _
    rw [List.length_set, List.take_set, r.ln, List.map_set]
inductive Both (n : Nat) (d : Int) (held : Held) : Res (Option Nat × MS) → Res (Option (Nat × Held)) → Prop
  | err : Both n d held .err .err
  | no {σ : MS} (r : Rel σ held) (hd : σ.depth = d) : Both n d held (.ok (none, σ)) (.ok none)
  | yes {e : Nat} {σ : MS} {h : Held} (r : Rel σ h) (ok : OkH e h) (he : e ≤ n) (hl : h.length ≤ 31) : Both n d held (.ok (some e, σ)) (.ok (some (e, h)))
section
variable {n : Nat} {d d' : Int} {held held' : Held} {r : Res (Option Nat × MS)} {x y : Res (Option (Nat × Held))} {f : MS → Res (Option Nat × MS)}
theorem Both.or (o : Both n d held r x) (h : ∀ σ, Rel σ held → σ.depth = d → Both n d' held' (f σ) y) : Both n d' held' (orR r f) (x.bind fun o => o.elim y fun p => .ok (some p)) := by
  cases o with
  | err => exact .err
  | no r hd => exact h _ r hd
  | yes r ok he hl => exact .yes r ok he hl
theorem Both.fix (o : Both n d held r x) (h : ∀ σ, Rel σ held → σ.depth = d → Both n d' held' (f σ) (.ok none)) : Both n d' held' (orR r f) x := by
  cases o with
  | err => exact .err
  | no r hd => exact h _ r hd
  | yes r ok he hl => exact .yes r ok he hl
theorem rangeN_cons (s m : Nat) : rangeN s (m + 1) = s :: rangeN (s + 1) m := by
  rw [rangeN, List.range_succ_eq_map, List.map_cons, List.map_map, rangeN]
  exact congrArg (s :: ·) (List.map_congr_left fun a _ => (Nat.succ_add_eq_add_succ s a).symm)
theorem most_sim {M : MM} {e s : Nat} {f : Nat → Res (Option (Nat × Held))} (m : Nat) : ∀ (σ : MS), Rel σ held → σ.depth = d → (∀ j < m, ∀ σ, Rel σ held → σ.depth = d → Both n d held (M (s + j) e σ) (f (s + j))) → Both n d held (mostD M e s m σ) (tryD f (rangeN s m).reverse) := by
  induction m with
  | zero => exact fun σ r hd _ => .no r hd
  | succ m ih =>
    intro σ r hd h
    have e1 : (rangeN s (m + 1)).reverse = (s + m) :: (rangeN s m).reverse := by rw [rangeN, List.range_succ, List.map_append, List.reverse_append]; rfl
    rw [e1]
    exact (h m (Nat.lt_succ_self m) σ r hd).or fun σ r hd => ih σ r hd fun j hj => h j (Nat.lt_succ_of_lt hj)
theorem least_sim {text pat : List UInt8} {M : MM} {p k : Nat} {f : Nat → Res (Option (Nat × Held))} {s0 : Nat} (hf : ∀ s, s0 ≤ s → s ≤ text.length → ∀ σ, Rel σ held → σ.depth = d → Both text.length d held (M s (p + k + 1) σ) (f s)) (n : Nat) : ∀ (s : Nat) (σ : MS), text.length - s < n → s0 ≤ s → s ≤ text.length → Rel σ held → σ.depth = d →
    Both text.length d held (leastD text pat M p k n s σ) (tryD f (rangeN s (runN text pat p k n s + 1))) := by
  induction n with
  | zero => exact fun s σ h => absurd h (Nat.not_lt_zero _)
  | succ n ih =>
    intro s σ h h0 hs r hd
    rw [rangeN_cons]
    refine (hf s h0 hs σ r hd).or fun σ r hd => ?_
    rw [show runN text pat p k (n + 1) s = (if isSingle text pat s p k then runN text pat p k n (s + 1) + 1 else 0) from rfl]
    split
    · rename_i hi
      have hlt : s < text.length := by
        unfold isSingle at hi
        split at hi
        · assumption
        · cases hi
      exact ih (s + 1) σ (by rw [Nat.sub_add_eq]; exact Nat.lt_of_lt_of_le (Nat.sub_lt (Nat.sub_pos_of_lt hlt) Nat.one_pos) (Nat.le_of_lt_succ h)) (Nat.le_succ_of_le h0) hlt r hd
    · exact .no r hd
end
noncomputable def Items (row : List UInt8) (its : List It) : Prop := ∃ n, itemsF n row = some its
theorem items_end {pat : List UInt8} {p : Nat} {its : List It} (hp : ¬ p < pat.length) (h : Items (pat.drop p) its) : its = [] := by
  obtain ⟨n, h⟩ := h
  rw [(jS hp).1] at h
  cases n with
  | zero => cases h
  | succ n => exact (Option.some.inj h).symm
theorem items_at {pat : List UInt8} {p : Nat} {its : List It} (hp : p < pat.length) (h : Items (pat.drop p) its) : ∃ it k its', itemD (pat.drop p) = some (it, k) ∧ its = it :: its' ∧ Items (pat.drop (p + k)) its' := by
  obtain ⟨n, h⟩ := h
  cases n with
  | zero => cases h
  | succ n =>
    obtain ⟨c, r, hd, _, _⟩ := jT (pat := pat) hp
    rw [hd] at h
    obtain ⟨⟨it, k⟩, hi, h⟩ := Option.bind_eq_some_iff.mp h
    obtain ⟨its', h3, rfl⟩ := Option.map_eq_some_iff.mp h
    rw [← hd] at hi h3
    exact ⟨it, k, its', hi, rfl, n, by rw [← List.drop_drop]; exact h3⟩
noncomputable def cnt40 (pat : List UInt8) (p : Nat) : Nat := ((pat.drop p).filter fun c => c.toNat == 40).length
theorem cnt40_mono {pat : List UInt8} {p p' : Nat} (h : p ≤ p') : cnt40 pat p' ≤ cnt40 pat p := by
  obtain ⟨k, rfl⟩ := Nat.exists_eq_add_of_le h
  rw [cnt40, ← List.drop_drop]
  exact ((List.drop_sublist _ _).filter _).length_le
theorem cnt40_at {pat : List UInt8} {p : Nat} (h : atN pat p = 40) : cnt40 pat (p + 1) + 1 = cnt40 pat p := by
  obtain ⟨c, r, hd, hat, hr⟩ := jT (pat := pat) (lt_of_at h)
  rw [cnt40, cnt40, hd, hr, List.filter_cons, if_pos (by rw [← hat, h]; rfl)]; rfl
noncomputable def SimAt (text pat : List UInt8) (M : MM) (p : Nat) : Prop := ∀ (s : Nat) (σ : MS) (held : Held) (its : List It), s ≤ text.length → Rel σ held → OkH s held → σ.depth + ((pat.length - p : Nat) : Int) < 60 → held.length + cnt40 pat p ≤ 31 → Items (pat.drop p) its → Both text.length σ.depth held (M s p σ) (wayD text its s held)
section
variable {text pat : List UInt8} {M : MM} {p s : Nat} {σ : MS} {held : Held} {its : List It}
theorem start_sim {kind : Int} {x : Nat × Option Int} (hM : SimAt text pat M p) (hx1 : pst x = s) (hk : encL x = kind) (hx : ∀ e, x.2 = some e → ¬ 0 ≤ e) (hs : s ≤ text.length) (r : Rel σ held) (ok : OkH s held) (hd : σ.depth + ((pat.length - p : Nat) : Int) < 60) (hc : held.length + 1 + cnt40 pat p ≤ 31) (hI : Items (pat.drop p) its) :
    Both text.length σ.depth held (startD M kind s p σ) (wayD text its s (held ++ [x])) := by
  have h31 : held.length + 1 ≤ 31 := Nat.le_trans (Nat.le_add_right _ _) hc
  subst hk
  rw [startD, r.lev, cut_take, cut_take, if_pos ⟨Int.natCast_nonneg _, Int.ofNat_lt.mpr (Nat.lt_of_lt_of_le h31 (by decide)), r.zs, r.zl⟩, ← hx1]
  have r1 := r.push (Nat.le_of_succ_le h31) x
  rw [r.lev] at r1
  refine Both.fix (hM s _ _ its hs r1 (fun q hq => (List.mem_append.mp hq).elim (ok q) fun hq => ?_) hd (by rw [List.length_append]; exact hc) hI) fun σ' r' d' => .no r'.pop d'
  rw [List.mem_singleton.mp hq]
  exact ⟨Nat.le_of_eq (Int.ofNat_inj.mp hx1), fun e he h0 => absurd h0 (hx e he)⟩
theorem encL_none {s : Nat} {p : Nat × Option Int} (h : p.1 ≤ s ∧ ∀ e, p.2 = some e → 0 ≤ e → (p.1 : Int) ≤ e ∧ e ≤ s) : (encL p = -1) = (p.2.isNone = true) := by
  obtain ⟨b, o⟩ := p
  cases o with
  | none => exact propext ⟨fun _ => rfl, fun _ => rfl⟩
  | some e =>
    refine propext ⟨fun z => ?_, fun z => nomatch z⟩
    change (if e < 0 then (-2 : Int) else e - b) = -1 at z
    split at z
    · cases z
    · rename_i h0
      have := Int.sub_nonneg_of_le (h.2 e rfl (Int.not_lt.mp h0)).1
      change 0 ≤ e - (b : Int) at this
      rw [z] at this; exact absurd this (by decide)
theorem toClose_wait (r : Rel σ held) (ok : OkH s held) (n : Nat) : n ≤ held.length → toClose σ.lengths n = ((List.range n).filter fun i => (held.getD i (0, none)).2.isNone).getLast? := by
  induction n with
  | zero => exact fun _ => rfl
  | succ n ih =>
    intro h
    rw [show toClose σ.lengths (n + 1) = (if σ.lengths.getD n 0 = -1 then some n else toClose σ.lengths n) from rfl, List.range_succ, List.filter_append, take_getD r.ln h 0 (0, none), ih (Nat.le_of_succ_le h), List.filter_cons]
    have e := encL_none (ok _ (getD_mem (d := (0, none)) h))
    by_cases hn : (held.getD n (0, none)).2.isNone = true
    · rw [if_pos (e ▸ hn), if_pos hn]; exact List.getLast?_concat.symm
    · rw [if_neg (fun z => hn (e ▸ z)), if_neg hn]; exact congrArg List.getLast? (List.append_nil _).symm
theorem end_sim (hM : SimAt text pat M p) (hs : s ≤ text.length) (r : Rel σ held) (ok : OkH s held) (hd : σ.depth + ((pat.length - p : Nat) : Int) < 60) (hc : held.length + cnt40 pat p ≤ 31) (hI : Items (pat.drop p) its) :
    Both text.length σ.depth held (endD M s p σ) ((waitL held).getLast?.elim .err fun i => wayD text its s (held.set i ((held.getD i (0, none)).1, some (s : Int)))) := by
  have ll := take_le r.ln
  have h31 : held.length ≤ 31 := Nat.le_trans (Nat.le_add_right _ _) hc
  rw [endD, if_pos (show 0 ≤ σ.level ∧ σ.level ≤ (σ.lengths.length : Int) ∧ σ.level ≤ 90 by rw [r.lev]; exact ⟨Int.natCast_nonneg _, Int.ofNat_le.mpr ll, Int.ofNat_le.mpr (Nat.le_trans h31 (by decide))⟩), show σ.level.toNat = held.length by rw [r.lev]; rfl, toClose_wait r ok _ (Nat.le_refl _)]
  show Both _ _ _ ((waitL held).getLast?.elim _ _) _
  cases hg : (waitL held).getLast? with
  | none => exact .err
  | some i =>
    obtain ⟨hi, hnone⟩ := List.mem_filter.mp (List.mem_of_getLast? hg)
    have hi := List.mem_range.mp hi
    have hb := ok _ (getD_mem (d := (0, none)) hi)
    show Both _ _ _ (if i < σ.starts.length ∧ i < σ.lengths.length then orR (M s p { σ with lengths := σ.lengths.set i ((s : Int) - σ.starts.getD i 0) }) (fun σ => if i < σ.lengths.length then .ok (none, { σ with lengths := σ.lengths.set i (-1) }) else .stuck) else .stuck) (wayD text its s (held.set i _))
    rw [if_pos ⟨Nat.lt_of_lt_of_le hi (take_le r.st), Nat.lt_of_lt_of_le hi ll⟩, take_getD r.st hi 0 (0, none)]
    generalize hq : held.getD i (0, none) = q at hb hnone
    obtain ⟨b, o⟩ := q
    cases o with
    | some e => cases hnone
    | none =>
    have hbb : (held.getD i (0, none)).1 = b := by rw [hq]
    have r1 := r.set hi hbb (some (s : Int))
    rw [show encL (b, some (s : Int)) = (s : Int) - b from if_neg (t := (-2 : Int)) (Int.not_lt.mpr (Int.natCast_nonneg s))] at r1
    refine Both.fix (hM s _ _ its hs r1 (fun q hq => (List.mem_or_eq_of_mem_set hq).elim (ok q) fun hq => ?_) hd (by rw [List.length_set]; exact hc) hI) fun σ' r' d' => ?_
    · rw [hq]; exact ⟨hb.1, fun e he h0 => by cases he; exact ⟨Int.ofNat_le.mpr hb.1, Int.le_refl _⟩⟩
    · have hi' : i < (held.set i (b, some (s : Int))).length := by rw [List.length_set]; exact hi
      refine (if_pos (Nat.lt_of_lt_of_le hi' (take_le r'.ln))).symm ▸ .no ?_ d'
      have r2 := r'.set hi' (b := b) (by rw [List.getD_eq_getElem?_getD, List.getElem?_set_self hi]; rfl) none
      rw [List.set_set, set_self hq] at r2
      exact r2
end
theorem balL_bound {b e : Nat} (l : List UInt8) : ∀ {o q x : Nat}, balL b e l o q = some x → q < x ∧ x ≤ q + l.length := by
  induction l with
  | nil => intro o q x h; cases h
  | cons c r ih =>
    intro o q x h
    have up : ∀ {o}, balL b e r o (q + 1) = some x → q < x ∧ x ≤ q + (r.length + 1) := fun h => ⟨Nat.lt_of_succ_lt (ih h).1, Nat.add_right_comm q r.length 1 ▸ (ih h).2⟩
    change (if _ then (if _ then _ else _) else if _ then _ else _) = _ at h
    rw [List.length_cons]
    split at h
    · split at h
      · cases h; exact ⟨Nat.lt_succ_self q, Nat.succ_le_succ (Nat.le_add_right _ _)⟩
      · exact up h
    · split at h
      · exact up h
      · exact up h
theorem cut_len (l : List UInt8) (a k : Nat) : (cut l (some (a : Int)) (some ((a + k : Nat) : Int))).length = min k (l.length - a) := by
  rw [cut2, List.length_take, List.length_drop]
noncomputable def goT (text : List UInt8) (its : List It) (held : Held) (o : Option Nat) : Res (Option (Nat × Held)) := o.elim (.ok none) fun s => wayD text its s held
noncomputable def Fwd (s n : Nat) (o : Option Nat) : Prop := ∀ s', o = some s' → s ≤ s' ∧ s' ≤ n
theorem Fwd.none {s n : Nat} : Fwd s n none := fun _ z => nomatch z
theorem Fwd.some {s n e : Nat} (h : s ≤ e ∧ e ≤ n) : Fwd s n (some e) := fun _ z => Option.some.inj z ▸ h
noncomputable def Go1 (γ : GM) (s : Nat) (σ : MS) (its : List It) (held : Held) (r : Res (V × MS)) (x : Res (Option (Nat × Held))) : Prop :=
  (r = .err ∧ x = .err) ∨ ∃ o, Fwd s γ.mc.text.length o ∧ r = .ok (optV o, σ) ∧ x = goT γ.mc.text its held o
section
variable {γ : GM} {s p : Nat} {σ : MS} {held : Held} {its : List It}
theorem bal_sim (hs : s ≤ γ.mc.text.length) (hc : held.length ≤ 100) (hp : p + 3 < γ.mc.pat.length) : ∃ o, Fwd s γ.mc.text.length o ∧ fBalance γ [.ref γ.mc.x, .int s, .int (p + 2)] σ = .ok (optV o, σ) ∧
    wayD γ.mc.text (.bal (atN γ.mc.pat (p + 2)) (atN γ.mc.pat (p + 3)) :: its) s held = goT γ.mc.text its held o := by
  have e1 : fBalance γ [.ref γ.mc.x, .int s, .int (p + 2)] σ = balR γ s (p + 2) σ := (m2_eq _ _).trans (if_pos ⟨Int.natCast_nonneg s, Int.natCast_nonneg (p + 2)⟩)
  have e2 : wayD γ.mc.text (.bal (atN γ.mc.pat (p + 2)) (atN γ.mc.pat (p + 3)) :: its) s held = tryD (fun e => wayD γ.mc.text its e held) (if s = γ.mc.text.length ∨ atN γ.mc.text s ≠ atN γ.mc.pat (p + 2) then [] else (balL (atN γ.mc.pat (p + 2)) (atN γ.mc.pat (p + 3)) (γ.mc.text.drop (s + 1)) 1 (s + 1)).elim [] fun e => [e]) := if_pos ⟨rfl, hs, hc⟩
  rw [e1, e2, balR, if_neg (Nat.not_le.mpr hp)]
  by_cases hc : s < γ.mc.text.length ∧ atN γ.mc.text s = atN γ.mc.pat (p + 2)
  · rw [if_pos hc, if_neg fun z => z.elim (Nat.ne_of_lt hc.1) fun z => z hc.2]
    show ∃ o, _ ∧ Res.ok (optV (balL _ (atN γ.mc.pat (p + 3)) _ _ _), σ) = _ ∧ _
    cases hb : balL (atN γ.mc.pat (p + 2)) (atN γ.mc.pat (p + 3)) (γ.mc.text.drop (s + 1)) 1 (s + 1) with
    | none => exact ⟨none, .none, rfl, rfl⟩
    | some e =>
      have h1 := balL_bound _ hb
      rw [List.length_drop, Nat.add_sub_of_le hc.1] at h1
      exact ⟨some e, .some ⟨Nat.le_of_succ_le (Nat.le_of_lt h1.1), h1.2⟩, rfl, tryD_one _ _⟩
  · rw [if_neg hc, if_pos (Decidable.or_iff_not_imp_left.mpr fun h z => hc ⟨Nat.lt_of_le_of_ne hs h, z⟩)]
    exact ⟨none, .none, rfl, rfl⟩
theorem Go1.non : Go1 γ s σ its held (.ok (.none, σ)) (.ok none) := .inr ⟨none, .none, rfl, rfl⟩
theorem again_go {b k : Nat} {f : Nat → Res (Option (Nat × Held))} (hs : s ≤ γ.mc.text.length) (h2 : b + k ≤ s) (hf : ∀ z, f z = goT γ.mc.text its held (some z)) : Go1 γ s σ its held (if ((k : Nat) : Int) = -1 then .err else if ((k : Nat) : Int) = -2 ∨ (γ.mc.text.length : Int) - s < (k : Nat) then .ok (.none, σ)
    else if cut γ.mc.text (some (b : Int)) (some ((b + k : Nat) : Int)) = cut γ.mc.text (some (s : Int)) (some ((s + k : Nat) : Int)) then .ok (.int ((s + k : Nat) : Int), σ) else .ok (.none, σ)) (againW γ.mc.text f s b ((b + k : Nat) : Int)) := by
  have e4 : (s : Int) + ((b + k : Nat) : Int) - (b : Nat) = ((s + k : Nat) : Int) := by omega
  rw [againW, if_pos (Int.natCast_nonneg _), e4, if_pos (Int.natCast_nonneg _), if_neg (show ¬ ((k : Nat) : Int) = -1 by omega)]
  by_cases hl : γ.mc.text.length < s + k
  · have hne : cut γ.mc.text (some (s : Int)) (some ((s + k : Nat) : Int)) ≠ cut γ.mc.text (some (b : Int)) (some ((b + k : Nat) : Int)) := fun z => by
      have := congrArg List.length z
      rw [cut_len, cut_len, Nat.min_eq_right (Nat.sub_le_iff_le_add'.mpr (Nat.le_of_lt hl)), Nat.min_eq_left (Nat.le_sub_of_add_le (Nat.add_comm b k ▸ Nat.le_trans h2 hs))] at this
      exact Nat.lt_irrefl _ (Nat.lt_of_lt_of_le hl (by rw [← this]; exact Nat.le_of_eq (Nat.add_sub_of_le hs)))
    rw [if_pos (.inr (by omega)), if_neg hne]
    exact .non
  · rw [if_neg (show ¬ (((k : Nat) : Int) = -2 ∨ (γ.mc.text.length : Int) - s < k) by omega)]
    by_cases hq : cut γ.mc.text (some (b : Int)) (some ((b + k : Nat) : Int)) = cut γ.mc.text (some (s : Int)) (some ((s + k : Nat) : Int))
    · rw [if_pos hq, if_pos hq.symm]
      exact .inr ⟨some (s + k), .some ⟨Nat.le_add_right _ _, Nat.not_lt.mp hl⟩, rfl, hf _⟩
    · rw [if_neg hq, if_neg fun z => hq z.symm]
      exact .non
theorem again_sim (hs : s ≤ γ.mc.text.length) (r : Rel σ held) (ok : OkH s held) (hc : held.length ≤ 100) : Go1 γ s σ its held (fMatchCapture γ [.ref γ.mc.x, .int s, .int 49] σ) (wayD γ.mc.text (.again 0 :: its) s held) := by
  have e1 : fMatchCapture γ [.ref γ.mc.x, .int s, .int 49] σ = if (49 : Int) - 49 < 0 ∨ σ.level ≤ 49 - 49 then .err else againR γ s 0 σ :=
    (m2_eq _ _).trans (if_pos (okLev_iff.mpr (by rw [OkLev, r.lev]; exact ⟨Int.natCast_nonneg _, Int.ofNat_le.mpr (take_le r.ln), Int.ofNat_le.mpr (take_le r.st)⟩)))
  have e2 : wayD γ.mc.text (.again 0 :: its) s held = if (0 : Int) ≤ 0 ∧ (0 : Int) < held.length then (held.getD 0 (0, none)).2.elim .err fun e => againW γ.mc.text (fun z => wayD γ.mc.text its z held) s (held.getD 0 (0, none)).1 e else .err := if_pos ⟨rfl, hs, hc⟩
  rw [e1, e2, r.lev]
  by_cases hi : 0 < held.length
  · rw [if_neg (fun z => z.elim (fun z => absurd z (by decide)) fun z => absurd (Int.ofNat_lt.mpr hi) (Int.not_lt.mpr z)), if_pos ⟨Int.le_refl 0, Int.ofNat_lt.mpr hi⟩, againR, take_getD r.st hi 0 (0, none), take_getD r.ln hi 0 (0, none)]
    have okk := ok _ (getD_mem (d := (0, none)) hi)
    generalize held.getD 0 (0, none) = q at okk
    obtain ⟨b, o⟩ := q
    cases o with
    | none => exact .inl ⟨rfl, rfl⟩
    | some e =>
      by_cases he : e < 0
      · rw [show encL (b, some e) = -2 from if_pos he]
        have e5 : againW γ.mc.text (fun z => wayD γ.mc.text its z held) s b e = .ok none := if_neg (Int.not_le.mpr he)
        exact .inr ⟨none, .none, rfl, e5⟩
      · obtain ⟨e, rfl⟩ := Int.eq_ofNat_of_zero_le (Int.not_lt.mp he)
        obtain ⟨h1, h2⟩ := okk.2 _ rfl (Int.natCast_nonneg e)
        obtain ⟨k, rfl⟩ : ∃ k, e = b + k := Nat.exists_eq_add_of_le (Int.ofNat_le.mp h1)
        rw [show encL (b, some ((b + k : Nat) : Int)) = (k : Nat) from (if_neg (t := (-2 : Int)) he).trans (show ((b + k : Nat) : Int) - (b : Nat) = (k : Nat) by omega)]
        exact again_go hs (Int.ofNat_le.mp h2) fun z => rfl
  · rw [if_pos (.inr (Int.ofNat_le.mpr (Nat.not_lt.mp hi))), if_neg fun z => hi (Int.ofNat_lt.mp z.2)]
    exact .inl ⟨rfl, rfl⟩
theorem front_sim (ht : okText γ.mc.text) (hop : okPat γ.mc.pat = true) (hz : γ.mc.pat.length ≤ 4000) (hs : s ≤ γ.mc.text.length) (hc : held.length ≤ 100) :
    (frontLen (γ.mc.pat.drop p) = 0 → fFrontier γ [.ref γ.mc.x, .int s, .int (p + 2)] σ = .err) ∧
    (0 < frontLen (γ.mc.pat.drop p) → ∃ o, Fwd s γ.mc.text.length o ∧ fFrontier γ [.ref γ.mc.x, .int s, .int (p + 2)] σ = .ok (.tup [optV o, .int ((p + (2 + frontLen (γ.mc.pat.drop p)) : Nat))], σ) ∧
      wayD γ.mc.text (.front ((γ.mc.pat.drop (p + 2)).take (frontLen (γ.mc.pat.drop p))) :: its) s held = goT γ.mc.text its held o) := by
  have e1 : fFrontier γ [.ref γ.mc.x, .int s, .int (p + 2)] σ = frontR γ s (p + 2) σ := (m2_eq _ _).trans (if_pos ⟨hop, Int.natCast_nonneg s, Int.ofNat_le.mpr hs, Int.natCast_nonneg (p + 2)⟩)
  have e2 : ((γ.mc.pat.drop p).drop 2).take 1 = [91] ↔ atN γ.mc.pat (p + 2) = 91 := by rw [List.drop_drop]; exact take1_iff (by decide)
  rw [e1, frontR, frontLen]
  by_cases h91 : atN γ.mc.pat (p + 2) = 91
  · have hp := lt_of_at h91
    obtain ⟨c, r, hd, hat, hr⟩ := jT hp
    have hss : jU (γ.mc.pat.drop (p + 2)) = setSize (γ.mc.pat.drop (p + 3)) := by
      rw [hd, singleSize_cons, ← hat, if_neg (by rw [h91]; decide), if_pos h91, ← hr]
    rw [if_pos h91, if_pos (e2.mpr h91), List.drop_drop, hss]
    cases hk : setSize (γ.mc.pat.drop (p + 3)) with
    | none => exact ⟨fun _ => rfl, fun h => absurd h (Nat.lt_irrefl _)⟩
    | some k =>
      have hk' := hss.trans hk
      have h2 := singleSize_pos hk'
      refine ⟨fun h => absurd h (Nat.ne_of_gt h2.1), fun _ => ?_⟩
      show ∃ o, _ ∧ (if inSet _ _ _ (p + 2 + k - 1) || !inSet _ _ _ (p + 2 + k - 1) then _ else _) = _ ∧ _
      rw [inSet_fits (ht.at s) hp h91 hk', inSet_fits (o := aheadN γ.mc.text s) (by
          unfold aheadN; split
          · exact .inr (.inr (.inr (.inr rfl)))
          · exact ht.at (s - 1)) hp h91 hk', ← Nat.add_assoc p 2]
      have hne : (γ.mc.pat.drop (p + 2)).take k ≠ [] := fun z => by
        have := congrArg List.length z
        rw [List.length_take, Nat.min_eq_left h2.2] at this
        exact Nat.ne_of_gt h2.1 this
      have hl : ((γ.mc.pat.drop (p + 2)).take k).length ≤ 4096 := Nat.le_trans (List.length_take_le' _ _) (by rw [List.length_drop]; omega)
      show ∃ o, _ ∧ _ ∧ wayD _ (.front ((γ.mc.pat.drop (p + 2)).take k) :: its) s held = _
      generalize (γ.mc.pat.drop (p + 2)).take k = S at hne hl
      have hw : wayD γ.mc.text (.front S :: its) s held = tryD (fun e => wayD γ.mc.text its e held) (if fitsAll S (atN γ.mc.text s) && !fitsAll S (aheadN γ.mc.text s) then [s] else []) :=
        if_pos ⟨(Bool.and_eq_true _ _).mpr ⟨decide_eq_true hne, decide_eq_true hl⟩, hs, hc⟩
      rw [hw]
      cases fitsAll S (atN γ.mc.text s) <;> cases fitsAll S (aheadN γ.mc.text s)
      · exact ⟨none, .none, rfl, rfl⟩
      · exact ⟨none, .none, rfl, rfl⟩
      · exact ⟨some s, .some ⟨Nat.le_refl s, hs⟩, rfl, tryD_one _ _⟩
      · exact ⟨none, .none, rfl, rfl⟩
  · rw [if_neg h91, if_neg fun z => h91 (e2.mp z)]
    exact ⟨fun _ => rfl, fun h => absurd h (Nat.lt_irrefl _)⟩
end
structure Run (text pat S : List UInt8) (p z s : Nat) : Prop where
  one : isSingle text pat s p z = decide (0 < runL S text s)
  run : ∀ s, runN text pat p z (text.length + 1) s = runL S text s
  fit : s ≤ text.length → s + runL S text s ≤ text.length
  step : 0 < runL S text s → runL S text s = runL S text (s + 1) + 1 ∧ s < text.length
theorem run_of {text pat : List UInt8} {p z : Nat} (ht : okText text) (hl : p < pat.length) (hk : jU (pat.drop p) = some z) (s : Nat) : Run text pat ((pat.drop p).take z) p z s := by
  have h1 := isSingle_fits (s := s) ht hl hk
  have hr := fun s => runN_runL ht hl hk (text.length + 1) s (Nat.lt_of_lt_of_le (Nat.lt_succ_self _) (Nat.le_add_left _ _))
  generalize (pat.drop p).take z = S at h1 hr
  refine ⟨?_, hr, fun hs => Nat.le_trans (Nat.add_le_add_left runL_le s) (Nat.le_of_eq (Nat.add_sub_of_le hs)), fun h => ?_⟩
  · rw [h1]
    by_cases h : s < text.length
    · rw [runL_step h, decide_eq_true h]
      cases fitsAll S (atN text s)
      · rfl
      · exact (decide_eq_true (Nat.succ_pos _)).symm
    · rw [runL_end h, decide_eq_false h]; rfl
  · by_cases hh : s < text.length
    · rw [runL_step hh] at h ⊢
      split at h
      · rename_i hf; rw [if_pos hf]; exact ⟨rfl, hh⟩
      · exact absurd h (Nat.lt_irrefl 0)
    · rw [runL_end hh] at h; exact absurd h (Nat.lt_irrefl 0)
theorem way_try {text : List UInt8} {it : It} {its : List It} {s : Nat} {held : Held} (hw : wayD text (it :: its) s held = if it.good = true ∧ s ≤ text.length ∧ held.length ≤ 100 then tryD (fun e => wayD text its e held) (endsD text it s) else .stuck) (hg : it.good = true) (hs : s ≤ text.length) (hc : held.length ≤ 100) {l : List Nat} (he : endsD text it s = l) :
    wayD text (it :: its) s held = tryD (fun e => wayD text its e held) l := by rw [hw, if_pos ⟨hg, hs, hc⟩, he]
structure Pt (γ : GM) (p s : Nat) (σ : MS) (held : Held) : Prop where
  ht : okText γ.mc.text
  hz : γ.mc.pat.length ≤ 4000
  hM : ∀ p', p < p' → p' ≤ γ.mc.pat.length → SimAt γ.mc.text γ.mc.pat γ.M p'
  hs : s ≤ γ.mc.text.length
  r : Rel σ held
  ok : OkH s held
  dep : σ.depth + ((γ.mc.pat.length - p : Nat) : Int) ≤ 60
  cn : held.length + cnt40 γ.mc.pat p ≤ 31
section
variable {γ : GM} {k p s z : Nat} {σ : MS} {held : Held} {it : It} {its : List It} {zz : Nat}
theorem Pt.hc (h : Pt γ p s σ held) : held.length ≤ 100 := Nat.le_trans (Nat.le_trans (Nat.le_add_right _ _) h.cn) (by decide)
theorem Pt.dp (h : Pt γ p s σ held) {p' : Nat} (h1 : p < p') (h2 : p' ≤ γ.mc.pat.length) : σ.depth + ((γ.mc.pat.length - p' : Nat) : Int) < 60 := by
  exact Int.lt_of_lt_of_le (Int.add_lt_add_left (Int.ofNat_lt.mpr (Nat.sub_lt_sub_left (Nat.lt_of_lt_of_le h1 h2) h1)) _) h.dep
theorem Pt.cnt (h : Pt γ p s σ held) {p' : Nat} (h1 : p ≤ p') : held.length + cnt40 γ.mc.pat p' ≤ 31 := Nat.le_trans (Nat.add_le_add_left (cnt40_mono h1) _) h.cn
theorem Pt.sim (h : Pt γ p s σ held) {p' : Nat} (h1 : p < p') (h2 : p' ≤ γ.mc.pat.length) (hI : Items (γ.mc.pat.drop p') its) (x : Nat) (h3 : s ≤ x) (h4 : x ≤ γ.mc.text.length) (σ' : MS) (r' : Rel σ' held) (d' : σ'.depth = σ.depth) : Both γ.mc.text.length σ.depth held (γ.M x p' σ') (wayD γ.mc.text its x held) :=
  d' ▸ h.hM p' h1 h2 x σ' held its h4 r' (h.ok.mono h3) (d' ▸ h.dp h1 h2) (h.cnt (Nat.le_of_lt h1)) hI
theorem single_sim (h : Pt γ p s σ held) (hl : p < γ.mc.pat.length) (hk : jU (γ.mc.pat.drop p) = some z) (hi : plainItem (γ.mc.pat.drop p) z = (it, zz)) (hI : Items (γ.mc.pat.drop (p + zz)) its)
    (ih : ∀ (p' s' : Nat) (σ' : MS), p < p' → s ≤ s' → s' ≤ γ.mc.text.length → Rel σ' held → σ'.depth = σ.depth → Items (γ.mc.pat.drop p') its → Both γ.mc.text.length σ.depth held (hereD γ k s' p' σ') (wayD γ.mc.text its s' held)) :
    Both γ.mc.text.length σ.depth held (singR γ (hereD γ k) s p σ z) (wayD γ.mc.text (it :: its) s held) := by
  have hz0 := singleSize_pos hk
  have hne : (γ.mc.pat.drop p).take z ≠ [] := fun e => by
    have := congrArg List.length e
    rw [List.length_take, Nat.min_eq_left hz0.2] at this
    exact Nat.ne_of_gt hz0.1 this
  have hle : ((γ.mc.pat.drop p).take z).length ≤ 4096 := Nat.le_trans (List.length_take_le' _ _) (Nat.le_trans (by rw [List.length_drop]; exact Nat.sub_le _ _) (Nat.le_trans h.hz (by decide)))
  have R := run_of h.ht hl hk
  have hpz : p < p + z := Nat.lt_add_of_pos_right hz0.1
  rw [plainItem, if_neg (Nat.ne_of_gt hz0.1), List.drop_drop] at hi
  generalize (γ.mc.pat.drop p).take z = S at hne hle R hi
  have hgs : (decide (S ≠ []) && decide (S.length ≤ 4096)) = true := (Bool.and_eq_true _ _).mpr ⟨decide_eq_true hne, decide_eq_true hle⟩
  have qi : ∀ c : UInt8, c.toNat ≠ 0 → (atN γ.mc.pat (p + z) = c.toNat ↔ (γ.mc.pat.drop (p + z)).take 1 = [c]) := fun c hc => (take1_iff hc).symm
  have hs := h.hs
  have many : ∀ {c : UInt8} {l : List Nat} {r : Res (Option Nat × MS)}, isMany [c] = true → atN γ.mc.pat (p + z) = c.toNat → c.toNat ≠ 0 → endsD γ.mc.text (.many S [c]) s = l → (Items (γ.mc.pat.drop (p + z + 1)) its → p + z + 1 ≤ γ.mc.pat.length → Both γ.mc.text.length σ.depth held r (tryD (fun e => wayD γ.mc.text its e held) l)) → Both γ.mc.text.length σ.depth held r (wayD γ.mc.text (it :: its) s held) := fun {c l r} hm hc h0 he k => by
    rw [(qi c h0).mp hc, if_pos hm] at hi
    cases hi
    have hp : p + z < γ.mc.pat.length := Decidable.byContradiction fun q => h0 (hc.symm.trans (jS q).2)
    rw [way_try (it := .many S [c]) rfl ((Bool.and_eq_true _ _).mpr ⟨hgs, hm⟩) hs h.hc he]
    exact k hI hp
  have up := Nat.lt_succ_of_lt hpz
  have hone : ∀ {A B : Res (Option Nat × MS)} {x : Res (Option (Nat × Held))}, (0 < runL S γ.mc.text s → Both γ.mc.text.length σ.depth held A x) → (runL S γ.mc.text s = 0 → Both γ.mc.text.length σ.depth held B x) → Both γ.mc.text.length σ.depth held (if isSingle γ.mc.text γ.mc.pat s p z then A else B) x := fun {A B x} a b =>
    ite1 (C := fun r => Both _ _ _ r x) (fun q => a (of_decide_eq_true ((R s).one.symm.trans q))) fun q => b (Nat.eq_zero_of_not_pos fun w => q ((R s).one.trans (decide_eq_true w)))
  refine ite1 (C := fun r => Both _ _ _ r _) (fun h1 => ?_) fun n1 => ite1 (C := fun r => Both _ _ _ r _) (fun h1 => ?_) fun n2 => ite1 (C := fun r => Both _ _ _ r _) (fun h1 => ?_) fun n3 => ite1 (C := fun r => Both _ _ _ r _) (fun h1 => ?_) fun n4 => ?_
  · refine many (c := 42) (l := (rangeN s (runL S γ.mc.text s + 1)).reverse) rfl h1 (by decide) rfl fun hI hp => ?_
    rw [(R s).run]
    exact most_sim _ σ h.r rfl fun j hj => h.sim up hp hI _ (Nat.le_add_right _ _) (Nat.le_trans (Nat.add_le_add_left (Nat.le_of_lt_succ hj) s) ((R s).fit hs))
  · refine many (c := 43) (l := ((rangeN s (runL S γ.mc.text s + 1)).drop 1).reverse) rfl h1 (by decide) rfl fun hI hp => hone (fun hr => ?_) fun hr => ?_
    · obtain ⟨h2, h3⟩ := (R s).step hr
      rw [h2, rangeN_cons, (R s).run]
      exact most_sim _ σ h.r rfl fun j hj => h.sim up hp hI _ (Nat.le_trans (Nat.le_succ s) (Nat.le_add_right _ _)) (Nat.le_trans (Nat.add_le_add_left (Nat.le_of_lt_succ hj) _) ((R (s + 1)).fit h3))
    · rw [hr]; exact .no h.r rfl
  · refine many (c := 45) (l := rangeN s (runL S γ.mc.text s + 1)) rfl h1 (by decide) rfl fun hI hp => ?_
    rw [← (R s).run]
    exact least_sim (fun x h1 h2 => h.sim up hp hI x h1 h2) _ s σ (Nat.lt_succ_of_le (Nat.sub_le _ _)) (Nat.le_refl s) hs h.r rfl
  · refine many (c := 63) (l := ((rangeN s (runL S γ.mc.text s + 1)).take 2).reverse) rfl h1 (by decide) rfl fun hI hp => hone (fun hr => ?_) fun hr => ?_
    · obtain ⟨h2, h3⟩ := (R s).step hr
      rw [h2, rangeN_cons, rangeN_cons]
      show Both _ _ _ _ (tryD _ [s + 1, s])
      exact Both.or (h.sim up hp hI _ (Nat.le_succ s) h3 σ h.r rfl) fun σ' r' d' => by rw [tryD_one]; exact ih _ s σ' up (Nat.le_refl s) hs r' d' hI
    · rw [hr]
      show Both _ _ _ _ (tryD _ [s])
      rw [tryD_one]; exact ih _ s σ up (Nat.le_refl s) hs h.r rfl hI
  · have hm : ¬ isMany ((γ.mc.pat.drop (p + z)).take 1) = true := fun q => by
      rcases isMany_iff.mp q with q | q | q | q
      · exact n1 ((qi 42 (by decide)).mpr q)
      · exact n2 ((qi 43 (by decide)).mpr q)
      · exact n3 ((qi 45 (by decide)).mpr q)
      · exact n4 ((qi 63 (by decide)).mpr q)
    rw [if_neg hm] at hi
    cases hi
    rw [way_try (it := .one S) rfl hgs hs h.hc rfl]
    show Both _ _ _ _ (tryD _ (if 0 < runL S γ.mc.text s then [s + 1] else []))
    refine hone (fun hr => ?_) fun hr => ?_
    · rw [if_pos hr, tryD_one]; exact ih _ (s + 1) σ hpz (Nat.le_succ s) ((R s).step hr).2 h.r rfl hI
    · rw [hr]; exact .no h.r rfl
end
noncomputable def isDigN (c : Nat) : Bool := decide (48 ≤ c) && decide (c ≤ 57)
theorem isDigs_one (d : UInt8) : isDigs [d] = isDigN d.toNat := (by decide +kernel : ∀ k : Fin 256, isDigs [UInt8.ofNat k.val] = isDigN (UInt8.ofNat k.val).toNat) ⟨d.toNat, d.toNat_lt⟩ |> fun h => by rw [UInt8.ofNat_toNat] at h; exact h
theorem isDigs_at (pat : List UInt8) (q : Nat) : isDigs ((pat.drop q).take 1) = isDigN (atN pat q) := by
  by_cases h : q < pat.length
  · obtain ⟨d, r, hd, hat, _⟩ := jT (pat := pat) h
    rw [hd, hat]; exact isDigs_one d
  · rw [(jS h).1, (jS h).2]; rfl
theorem secB_drop (pat : List UInt8) (p : Nat) : secB (pat.drop p) = (pat.drop (p + 1)).take 1 := by rw [secB, List.drop_drop]
theorem isSpecial_dig {c : Nat} (h98 : c ≠ 98) (h102 : c ≠ 102) : isSpecial c = isDigN c := by
  have e : ∀ k : Nat, c ≠ k → (((k : Nat) : Int) == (c : Int)) = false := fun k h => beq_eq_false_iff_ne.mpr fun e => h (Int.ofNat_inj.mp e).symm
  show (((((98 : Nat) : Int) == (c : Int)) || ((((102 : Nat) : Int) == (c : Int)) || false)) || (decide (((48 : Nat) : Int) ≤ c) && decide ((c : Int) ≤ ((57 : Nat) : Int)))) = _
  rw [e 98 h98, e 102 h102, dec_cast_le, dec_cast_le]; rfl
theorem row36 {pat : List UInt8} {p : Nat} (hp : p < pat.length) : (atN pat p = 36 ∧ p + 1 = pat.length) ↔ pat.drop p = [36] := by
  obtain ⟨c, r, hd, hat, hr⟩ := jT (pat := pat) hp
  rw [hd, hat]
  refine ⟨fun ⟨e1, e2⟩ => ?_, fun e => ?_⟩
  · rw [← hr, List.drop_eq_nil_of_le (Nat.le_of_eq e2.symm), UInt8.toNat_inj.mp (show c.toNat = (36 : UInt8).toNat from e1)]
  · injection e with e1 e2
    rw [e2] at hr
    exact ⟨congrArg UInt8.toNat e1, Nat.le_antisymm hp (List.drop_eq_nil_iff.mp hr)⟩
section
variable {γ : GM} {k p s : Nat} {σ : MS} {held : Held} {it : It} {its : List It} {zz : Nat}
theorem here_case {C : Res (Option Nat × MS) → Option (It × Nat) → Prop} (hs : s ≤ γ.mc.text.length) (hl : p < γ.mc.pat.length)
    (c1 : atN γ.mc.pat p = 40 → atN γ.mc.pat (p + 1) = 41 → C (startD γ.M (-2) s (p + 2) σ) (some (.place, 2)))
    (c2 : atN γ.mc.pat p = 40 → C (startD γ.M (-1) s (p + 1) σ) (some (.open_, 1)))
    (c3 : C (endD γ.M s (p + 1) σ) (some (.close, 1)))
    (c4 : p + 1 = γ.mc.pat.length → C (.ok (if s = γ.mc.text.length then some s else none, σ)) (some (.end_, 1)))
    (c5 : C (specR ((fBalance γ [.ref γ.mc.x, .int s, .int (p + 2)] σ).bind fun r => .ok (.tup [r.1, .int (p + 4)], r.2)) (hereD γ k)) (some (if 3 < (γ.mc.pat.drop p).length then (.bal (atN (γ.mc.pat.drop p) 2) (atN (γ.mc.pat.drop p) 3), 4) else (.bad, (γ.mc.pat.drop p).length))))
    (c6 : C (specR (fFrontier γ [.ref γ.mc.x, .int s, .int (p + 2)] σ) (hereD γ k)) (some (if 0 < frontLen (γ.mc.pat.drop p) then (.front (((γ.mc.pat.drop p).drop 2).take (frontLen (γ.mc.pat.drop p))), 2 + frontLen (γ.mc.pat.drop p)) else (.bad, (γ.mc.pat.drop p).length))))
    (c7 : C (specR ((fMatchCapture γ [.ref γ.mc.x, .int s, .int 49] σ).bind fun r => .ok (.tup [r.1, .int (p + 2)], r.2)) (hereD γ k)) (some (.again 0, 2)))
    (c7' : ∀ r, C r none)
    (c8 : C ((jU (γ.mc.pat.drop p)).elim .err (singR γ (hereD γ k) s p σ)) (some (plainItem (γ.mc.pat.drop p) ((jU (γ.mc.pat.drop p)).getD 0)))) : C (hereD γ (k + 1) s p σ) (itemD (γ.mc.pat.drop p)) := by
  have a0 : atN (γ.mc.pat.drop p) 0 = atN γ.mc.pat p := atN_drop _ _ _
  have sec : ∀ c : UInt8, c.toNat ≠ 0 → (secB (γ.mc.pat.drop p) = [c] ↔ atN γ.mc.pat (p + 1) = c.toNat) := fun c hc => by rw [secB_drop]; exact take1_iff hc
  have e1 : hereD γ (k + 1) s p σ = _ := (if_pos hs).trans (if_pos hl)
  rw [e1, itemD, a0]
  refine ite2 Iff.rfl (fun h => ?_) fun n1 => ite2 Iff.rfl (fun h => c3) fun n2 => ite2 (row36 hl) (fun h => c4 h.2) fun n3 => ?_
  · by_cases h1 : atN γ.mc.pat (p + 1) = 41
    · rw [if_pos h1, if_pos ((sec 41 (by decide)).mpr h1)]; exact c1 h h1
    · rw [if_neg h1, if_neg fun z => h1 ((sec 41 (by decide)).mp z)]; exact c2 h
  by_cases h37 : atN γ.mc.pat p = 37
  · have eS : ∀ l : Int, fSpecial γ [.ref γ.mc.x, .int s, .int p, .int l] σ = _ := fun l => m3_eq _ _ _
    rw [here4, decide_eq_true h37]
    by_cases h98 : atN γ.mc.pat (p + 1) = 98
    · rw [if_pos (c := atN γ.mc.pat p = 37 ∧ _) ⟨h37, (sec 98 (by decide)).mpr h98⟩, h98, if_pos (by decide), eS]
      exact c5
    rw [if_neg (c := atN γ.mc.pat p = 37 ∧ secB _ = [98]) fun z => h98 ((sec 98 (by decide)).mp z.2)]
    by_cases h102 : atN γ.mc.pat (p + 1) = 102
    · rw [if_pos (c := atN γ.mc.pat p = 37 ∧ _) ⟨h37, (sec 102 (by decide)).mpr h102⟩, h102, if_pos (by decide), eS]
      exact c6
    rw [if_neg (c := atN γ.mc.pat p = 37 ∧ secB _ = [102]) fun z => h102 ((sec 102 (by decide)).mp z.2), isSpecial_dig h98 h102]
    refine ite2 ⟨fun z => ⟨h37, by rw [secB_drop, isDigs_at]; exact z⟩, fun z => by have := z.2; rw [secB_drop, isDigs_at] at this; exact this⟩ (fun hd => ?_) fun hd => c8
    by_cases h49 : atN γ.mc.pat (p + 1) = 49
    · rw [if_pos ((sec 49 (by decide)).mpr h49), h49, eS]; exact c7
    · rw [if_neg fun z => h49 ((sec 49 (by decide)).mp z)]; exact c7' _
  · rw [here4, decide_eq_false h37, if_neg (c := (false && _) = true) (fun z => nomatch z), if_neg fun z => h37 z.1, if_neg fun z => h37 z.1, if_neg fun z => h37 z.1]
    exact c8
theorem specR_of {q : Int} (o : Option Nat) (p : Nat) (hq : q = p) (hF : Fwd s γ.mc.text.length o) (r : Rel σ held) (ih : ∀ s', s ≤ s' → s' ≤ γ.mc.text.length → Both γ.mc.text.length σ.depth held (hereD γ k s' p σ) (wayD γ.mc.text its s' held)) : Both γ.mc.text.length σ.depth held (specR (.ok (.tup [optV o, .int q], σ)) (hereD γ k)) (goT γ.mc.text its held o) := by
  subst hq
  cases o with
  | none => exact .no r rfl
  | some s' =>
    have h := hF s' rfl
    show Both _ _ _ (if 0 ≤ (s' : Int) ∧ 0 ≤ (p : Int) then hereD γ k s' p σ else .stuck) _
    rw [if_pos ⟨Int.natCast_nonneg _, Int.natCast_nonneg _⟩]
    exact ih s' h.1 h.2
theorem here_sim (hop : okPat γ.mc.pat = true) (k : Nat) : ∀ {p s : Nat} {σ : MS} {held : Held} {its : List It}, γ.mc.pat.length - p < k → Pt γ p s σ held → Items (γ.mc.pat.drop p) its →
    Both γ.mc.text.length σ.depth held (hereD γ k s p σ) (wayD γ.mc.text its s held) := by
  induction k with
  | zero => exact fun h => absurd h (Nat.not_lt_zero _)
  | succ k ih0 =>
    intro p s σ held its hk P hI
    have hs := P.hs
    by_cases hl : p < γ.mc.pat.length
    · obtain ⟨it, z, its', hi, rfl, hI'⟩ := items_at hl hI
      have h31 : held.length ≤ 31 := Nat.le_trans (Nat.le_add_right _ _) P.cn
      have ih : ∀ (p' s' : Nat) (σ' : MS), p < p' → s ≤ s' → s' ≤ γ.mc.text.length → Rel σ' held → σ'.depth = σ.depth → Items (γ.mc.pat.drop p') its' → Both γ.mc.text.length σ.depth held (hereD γ k s' p' σ') (wayD γ.mc.text its' s' held) := fun p' s' σ' h1 h2 h3 r' d' hI2 =>
        d' ▸ ih0 (Nat.lt_of_lt_of_le (Nat.sub_lt_sub_left hl h1) (Nat.le_of_lt_succ hk)) ⟨P.ht, P.hz, fun q hq => P.hM q (Nat.lt_trans h1 hq), h3, r', P.ok.mono h2, by rw [d']; exact Int.le_trans (Int.add_le_add_left (Int.ofNat_le.mpr (Nat.sub_le_sub_left (Nat.le_of_lt h1) _)) _) P.dep, P.cnt (Nat.le_of_lt h1)⟩ hI2
      have cnt : ∀ q, p + 1 ≤ q → atN γ.mc.pat p = 40 → held.length + 1 + cnt40 γ.mc.pat q ≤ 31 := fun q hq h40 =>
        Nat.le_trans (by rw [Nat.add_assoc, Nat.add_comm 1, ← cnt40_at h40]; exact Nat.add_le_add_left (Nat.succ_le_succ (cnt40_mono hq)) _) P.cn
      clear hI hk
      revert hi
      refine here_case (C := fun r i => i = some (it, z) → Both γ.mc.text.length σ.depth held r (wayD γ.mc.text (it :: its') s held)) hs hl (fun h40 h41 e => ?_) (fun h40 e => ?_) (fun e => ?_) (fun hp e => ?_) (fun e => ?_) (fun e => ?_) (fun e => ?_) (fun r e => nomatch e) (fun e => ?_)
      · cases e
        have hw : wayD γ.mc.text (.place :: its') s held = wayD γ.mc.text its' s (held ++ [(s, some (-1))]) := if_pos ⟨rfl, hs, P.hc⟩
        rw [hw]
        exact start_sim (P.hM (p + 2) (Nat.lt_add_of_pos_right (by decide)) (lt_of_at h41)) rfl rfl (fun e he => by cases he; decide) hs P.r P.ok (P.dp (Nat.lt_add_of_pos_right (by decide)) (lt_of_at h41)) (cnt _ (Nat.le_succ _) h40) hI'
      · cases e
        have hw : wayD γ.mc.text (.open_ :: its') s held = wayD γ.mc.text its' s (held ++ [(s, none)]) := if_pos ⟨rfl, hs, P.hc⟩
        rw [hw]
        exact start_sim (P.hM (p + 1) (Nat.lt_succ_self p) hl) rfl rfl (fun e he => nomatch he) hs P.r P.ok (P.dp (Nat.lt_succ_self p) hl) (cnt _ (Nat.le_refl _) h40) hI'
      · cases e
        have hw : wayD γ.mc.text (.close :: its') s held = _ := if_pos ⟨rfl, hs, P.hc⟩
        rw [hw]
        exact end_sim (P.hM (p + 1) (Nat.lt_succ_self p) hl) hs P.r P.ok (P.dp (Nat.lt_succ_self p) hl) (P.cnt (Nat.le_succ p)) hI'
      · cases e
        cases items_end (Nat.not_lt.mpr (Nat.le_of_eq hp.symm)) hI'
        rw [way_try (it := .end_) rfl rfl hs P.hc (l := if s = γ.mc.text.length then [s] else []) rfl]
        by_cases he : s = γ.mc.text.length
        · rw [if_pos he, if_pos he, tryD_one]; exact .yes P.r P.ok hs h31
        · rw [if_neg he, if_neg he]; exact .no P.r rfl
      · by_cases h3 : 3 < (γ.mc.pat.drop p).length
        · rw [if_pos h3] at e
          cases e
          rw [atN_drop, atN_drop]
          obtain ⟨o, b1, b2, b3⟩ := bal_sim (σ := σ) (its := its') hs P.hc (p := p) (by rw [List.length_drop] at h3; exact Nat.add_comm 3 p ▸ Nat.add_lt_of_lt_sub h3)
          rw [b2, b3]
          exact specR_of o (p + 4) rfl b1 P.r fun s' h1 h2 => ih (p + 4) s' σ (Nat.lt_add_of_pos_right (by decide)) h1 h2 P.r rfl hI'
        · rw [if_neg h3] at e
          have hw : wayD γ.mc.text (it :: its') s held = .err := by cases e; exact if_pos ⟨rfl, hs, P.hc⟩
          have e1 : fBalance γ [.ref γ.mc.x, .int s, .int (p + 2)] σ = .err := (m2_eq _ _).trans ((if_pos ⟨Int.natCast_nonneg s, Int.natCast_nonneg (p + 2)⟩).trans (if_pos (show γ.mc.pat.length ≤ p + 3 by rw [List.length_drop] at h3; exact Nat.add_comm 3 p ▸ Nat.sub_le_iff_le_add.mp (Nat.not_lt.mp h3))))
          rw [e1, hw]; exact .err
      · obtain ⟨f1, f2⟩ := front_sim (p := p) (σ := σ) (its := its') P.ht hop P.hz hs P.hc
        by_cases h3 : 0 < frontLen (γ.mc.pat.drop p)
        · rw [if_pos h3] at e
          cases e
          rw [List.drop_drop]
          obtain ⟨o, b1, b2, b3⟩ := f2 h3
          rw [b2, b3]
          exact specR_of o _ rfl b1 P.r fun s' h1 h2 => ih _ s' σ (Nat.lt_add_of_pos_right (Nat.add_pos_left (by decide) _)) h1 h2 P.r rfl hI'
        · rw [if_neg h3] at e
          have hw : wayD γ.mc.text (it :: its') s held = .err := by cases e; exact if_pos ⟨rfl, hs, P.hc⟩
          rw [f1 (Nat.eq_zero_of_not_pos h3), hw]; exact .err
      · cases e
        rcases again_sim (its := its') hs P.r P.ok P.hc with ⟨b1, b2⟩ | ⟨o, b1, b2, b3⟩
        · rw [b1, b2]; exact .err
        · rw [b2, b3]
          exact specR_of o (p + 2) rfl b1 P.r fun s' h1 h2 => ih (p + 2) s' σ (Nat.lt_add_of_pos_right (by decide)) h1 h2 P.r rfl hI'
      · cases hk2 : jU (γ.mc.pat.drop p) with
        | none =>
          rw [hk2] at e
          have hw : wayD γ.mc.text (it :: its') s held = .err := by cases e; exact if_pos ⟨rfl, hs, P.hc⟩
          rw [hw]; exact .err
        | some z' =>
          rw [hk2] at e
          exact single_sim P hl hk2 (Option.some.inj e) hI' ih
    · rw [items_end hl hI]
      have e1 : hereD γ (k + 1) s p σ = .ok (some s, σ) := (if_pos hs).trans (if_neg hl)
      rw [e1]
      exact .yes P.r P.ok hs (Nat.le_trans (Nat.le_add_right _ _) P.cn)
end
theorem Both.deep {n : Nat} {d : Int} {held : Held} {r : Res (Option Nat × MS)} {x : Res (Option (Nat × Held))} (o : Both n (d + 1) held r x) : Both n d held (r.bind fun r => .ok (r.1, { r.2 with depth := r.2.depth - 1 })) x := by
  cases o with
  | err => exact .err
  | no r hd => exact .no ⟨r.lev, r.st, r.ln, r.zs, r.zl⟩ (by show _ - 1 = d; rw [hd]; exact Int.add_sub_cancel d 1)
  | yes r ok he hl => exact .yes ⟨r.lev, r.st, r.ln, r.zs, r.zl⟩ ok he hl
theorem match_sim {mc : MC} (ht : okText mc.text) (hop : okPat mc.pat = true) (hz : mc.pat.length ≤ 4000) (k : Nat) : ∀ (p : Nat), mc.pat.length - p < k → SimAt mc.text mc.pat (mMatch mc k) p := by
  induction k with
  | zero => exact fun p h => absurd h (Nat.not_lt_zero _)
  | succ k ih =>
    intro p h s σ held its hs r ok hd hc hI
    have hd' : σ.depth < 60 := by omega
    have e : mMatch mc (k + 1) s p σ = _ := if_pos hd'
    have e2 : hereF ⟨mc, mMatch mc k⟩ s p { σ with depth := σ.depth + 1 } = hereD ⟨mc, mMatch mc k⟩ (mc.pat.length + 1) s p { σ with depth := σ.depth + 1 } := if_pos hop
    rw [e, e2]
    have h2 : ∀ p', p < p' → p' ≤ mc.pat.length → mc.pat.length - p' < k := fun p' h1 h2 => Nat.lt_of_lt_of_le (Nat.sub_lt_sub_left (Nat.lt_of_lt_of_le h1 h2) h1) (Nat.le_of_lt_succ h)
    have P : Pt ⟨mc, mMatch mc k⟩ p s { σ with depth := σ.depth + 1 } held := ⟨ht, hz, fun p' h1 h3 => ih p' (h2 p' h1 h3), hs, ⟨r.lev, r.st, r.ln, r.zs, r.zl⟩, ok, by show σ.depth + 1 + ((mc.pat.length - p : Nat) : Int) ≤ 60; omega, hc⟩
    exact Both.deep (here_sim hop _ (Nat.lt_succ_of_le (Nat.sub_le _ _)) P hI)
inductive Found : Res (Option (Nat × Nat) × MS) → Res (Option (Nat × Nat × Held)) → Prop
  | err : Found .err .err
  | no {σ : MS} : Found (.ok (none, σ)) (.ok none)
  | yes {s e : Nat} {σ : MS} {h : Held} (r : Rel σ h) (ok : OkH e h) (hl : h.length ≤ 31) : Found (.ok (some (s, e), σ)) (.ok (some (s, e, h)))
theorem search_step {mc : MC} {M : MM} {p s : Nat} {its : List It} {anch : Bool} {n : Nat} {σ : MS} {bs : List Nat} (o : Both mc.text.length 0 [] (M s p ⟨0, 0, [], []⟩) (wayD mc.text its s [])) (hs : s ≤ mc.text.length)
    (h : ∀ σ', Found (if anch = true then .ok (none, σ') else searchD mc M anch p n (s + 1) σ') (dueL mc.text its bs)) :
    Found (searchD mc M anch p (n + 1) s σ) (dueL mc.text its (s :: bs)) := by
  rw [show searchD mc M anch p (n + 1) s σ = _ from if_pos hs]
  show Found _ ((wayD mc.text its s []).bind _)
  generalize M s p ⟨0, 0, [], []⟩ = a at o
  generalize wayD mc.text its s [] = x at o
  cases o with
  | err => exact .err
  | no r hd => exact h _
  | yes r ok he hl => exact .yes r ok hl
theorem search_sim {mc : MC} {M : MM} {p : Nat} {its : List It} (o : ∀ s ≤ mc.text.length, Both mc.text.length 0 [] (M s p ⟨0, 0, [], []⟩) (wayD mc.text its s [])) (n : Nat) : ∀ (m s : Nat) (σ : MS), s + m = mc.text.length + 1 → m < n →
    Found (searchD mc M false p n s σ) (dueL mc.text its (rangeN s m)) := by
  induction n with
  | zero => exact fun m s σ _ h => absurd h (Nat.not_lt_zero _)
  | succ n ih =>
    intro m s σ h hn
    cases m with
    | zero =>
      rw [show searchD mc M false p (n + 1) s σ = _ from if_neg (show ¬ s ≤ mc.text.length from fun z => Nat.lt_irrefl _ (Nat.lt_of_lt_of_le (Nat.lt_succ_of_le z) (Nat.le_of_eq h.symm)))]
      exact .no
    | succ m =>
      rw [rangeN_cons]
      have hs : s ≤ mc.text.length := Nat.le_of_succ_le_succ (Nat.le_trans (Nat.add_le_add_left (Nat.succ_pos m) s) (Nat.le_of_eq h))
      exact search_step (o s hs) hs fun σ' => ih m (s + 1) σ' ((Nat.succ_add_eq_add_succ s m).trans h) (Nat.lt_of_succ_lt_succ hn)
theorem cap_at {γ : GM} {s e : Nat} {σ : MS} {h : Held} (r : Rel σ h) (ok : OkH e h) {i : Nat} (hi : i < h.length) : fCapture γ [.ref γ.mc.x, .int i, .int s, .int e] σ = if (h.getD i (0, none)).2.isNone then .err else .ok (heldVal γ.mc.text (h.getD i (0, none)), σ) := by
  have hl : okLev σ = true := okLev_iff.mpr (by rw [OkLev, r.lev]; exact ⟨Int.natCast_nonneg _, Int.ofNat_le.mpr (take_le r.ln), Int.ofNat_le.mpr (take_le r.st)⟩)
  have e1 : fCapture γ [.ref γ.mc.x, .int i, .int s, .int e] σ = capR γ i σ := (m3_eq _ _ _).trans ((if_pos ⟨Int.natCast_nonneg i, hl⟩).trans (if_neg (by rw [r.lev]; exact Int.not_le.mpr (Int.ofNat_lt.mpr hi))))
  rw [e1, capR, take_getD r.st hi 0 (0, none), take_getD r.ln hi 0 (0, none)]
  have okk := ok _ (getD_mem (d := (0, none)) hi)
  generalize h.getD i (0, none) = q at okk
  obtain ⟨b, o⟩ := q
  cases o with
  | none => rfl
  | some x =>
    show (if (if x < 0 then (-2 : Int) else x - b) = -1 then _ else if (if x < 0 then (-2 : Int) else x - b) = -2 then Res.ok (V.int ((b : Int) + 1), σ) else Res.ok (V.bytes (cut γ.mc.text (some (b : Int)) (some ((b : Int) + (if x < 0 then (-2 : Int) else x - b)))), σ)) = .ok (if x < 0 then .int ((b : Int) + 1) else .bytes (cut γ.mc.text (some b) (some x)), σ)
    by_cases hx : x < 0
    · rw [if_pos hx, if_neg (by decide), if_pos rfl, if_pos hx]
    · have h1 := (okk.2 x rfl (Int.not_lt.mp hx)).1
      change (b : Int) ≤ x at h1
      rw [if_neg hx, if_neg (show ¬ x - (b : Int) = -1 by omega), if_neg (show ¬ x - (b : Int) = -2 by omega), if_neg hx, show (b : Int) + (x - b) = x by omega]
theorem cap_sim {γ : GM} {s e : Nat} {σ : MS} {h : Held} (r : Rel σ h) (ok : OkH e h) (m : Nat) : ∀ (i : Nat), i + m = h.length → capL γ s e ((rangeN i m).map fun (k : Nat) => V.int k) σ = if (openL (h.drop i)).isEmpty then .ok ((h.drop i).map (heldVal γ.mc.text), σ) else .err := by
  induction m with
  | zero => intro i hi; rw [List.drop_eq_nil_of_le (i := i) (Nat.le_of_eq hi.symm)]; rfl
  | succ m ih =>
    intro i hi
    have hlt : i < h.length := Nat.lt_of_lt_of_le (Nat.lt_add_of_pos_right (Nat.succ_pos m)) (Nat.le_of_eq hi)
    have e1 := cap_at (γ := γ) (s := s) r ok hlt
    rw [rangeN_cons, List.drop_eq_getElem_cons hlt, openL, List.filter_cons]
    rw [List.getD_eq_getElem?_getD, List.getElem?_eq_getElem hlt, Option.getD_some] at e1
    show (fCapture γ [.ref γ.mc.x, .int i, .int s, .int e] σ).bind (fun q => (capL γ s e ((rangeN (i + 1) m).map fun (k : Nat) => V.int k) q.2).bind fun r => .ok (q.1 :: r.1, r.2)) = _
    rw [e1]
    cases h[i].2.isNone with
    | true => rfl
    | false =>
      show (capL γ s e ((rangeN (i + 1) m).map fun (k : Nat) => V.int k) σ).bind _ = if (openL (h.drop (i + 1))).isEmpty then _ else _
      rw [ih (i + 1) ((Nat.succ_add_eq_add_succ i m).trans hi)]
      cases (openL (h.drop (i + 1))).isEmpty <;> rfl
theorem found_due {γ : GM} {r : Res (Option (Nat × Nat) × MS)} {x : Res (Option (Nat × Nat × Held))} (f : Found r x) : refuse (foundV γ r) = dueC γ.mc.text x ∧ x ≠ .stuck := by
  cases f with
  | err => exact ⟨rfl, fun z => nomatch z⟩
  | no => exact ⟨rfl, fun z => nomatch z⟩
  | @yes s e σ h r ok hl =>
    refine ⟨?_, fun z => nomatch z⟩
    have e1 : fCaptures γ [.ref γ.mc.x, .int s, .int e, .bool true] σ = (capL γ s e (rangeL 0 (if σ.level = 0 ∧ true = true then 1 else σ.level)) σ).bind fun r => .ok (.lst r.1, r.2) :=
      (m2b_eq _ _ _ _).trans (if_pos (by rw [r.lev]; exact ⟨Int.natCast_nonneg _, Int.ofNat_le.mpr (Nat.le_trans hl (by decide))⟩))
    show refuse ((fCaptures γ [.ref γ.mc.x, .int s, .int e, .bool true] σ).bind _) = .ok (dueV1 γ.mc.text s e h)
    rw [e1, dueV1]
    cases h with
    | nil =>
      have hlev : σ.level = 0 := r.lev
      rw [if_pos ⟨hlev, rfl⟩]
      have e2 : fCapture γ [.ref γ.mc.x, .int 0, .int s, .int e] σ = .ok (.bytes (cut γ.mc.text (some (s : Int)) (some (e : Int))), σ) :=
        (m3_eq _ _ _).trans ((if_pos ⟨Int.le_refl 0, okLev_iff.mpr (by rw [OkLev, hlev]; exact ⟨Int.le_refl 0, Int.natCast_nonneg _, Int.natCast_nonneg _⟩)⟩).trans ((if_pos (Int.le_of_eq hlev)).trans (if_neg (Int.lt_irrefl 0))))
      show refuse ((((fCapture γ [.ref γ.mc.x, .int 0, .int s, .int e] σ).bind _).bind _).bind _) = _
      rw [e2]; rfl
    | cons q h =>
      have hlev := r.lev
      have e3 : rangeL 0 σ.level = (rangeN 0 (q :: h).length).map fun (k : Nat) => V.int k := by
        rw [hlev, rangeL, rangeN, List.map_map]
        exact List.map_congr_left fun a _ => congrArg V.int (by show (0 : Int) + (a : Int) = ((0 + a : Nat) : Int); rw [Int.zero_add, Nat.zero_add])
      rw [if_neg (fun z => by have q := hlev.symm.trans z.1; cases q), e3, cap_sim r ok _ 0 (Nat.zero_add _), List.drop_zero]
      cases (openL (q :: h)).isEmpty <;> rfl
theorem heldVal_flat (text : List UInt8) (p : Nat × Option Int) : flat1 (heldVal text p) = true := by
  obtain ⟨b, o⟩ := p
  cases o with
  | none => rfl
  | some x => exact ite1 (C := fun v => flat1 v = true) (fun _ => rfl) fun _ => rfl
theorem dueV_flat (text : List UInt8) (o : Option (Nat × Nat × Held)) : flat3 (dueV text o) = true := by
  cases o with
  | none => rfl
  | some x =>
    obtain ⟨b, e, h⟩ := x
    refine ite1 (C := fun v => flat3 v = true) (fun _ => ?_) fun _ => rfl
    have h1 : (if h.isEmpty then [V.bytes (cut text (some (b : Int)) (some (e : Int)))] else h.map (heldVal text)).all flat1 = true := by
      refine ite1 (C := fun (l : List V) => l.all flat1 = true) (fun _ => rfl) fun _ => List.all_eq_true.mpr fun v hv => ?_
      obtain ⟨p, _, rfl⟩ := List.mem_map.mp hv
      exact heldVal_flat text p
    generalize (if h.isEmpty then [V.bytes (cut text (some (b : Int)) (some (e : Int)))] else h.map (heldVal text)) = l at h1 ⊢
    show (([V.int b, V.int e] : List V).all flat1 && (l.all flat1 && true)) = true
    rw [h1]; rfl
theorem heard_due {text pat : List UInt8} (ht : okText text) (hop : okPat pat = true) (hz : pat.length ≤ 48) (hc : cnt40 pat 0 ≤ 31) {its : List It} (b : Bool) (hI : Items (pat.drop (if b then 1 else 0)) its) (a dx : Addr) :
    heardG (g50 ⟨a, dx, text, pat⟩) b = dueC text (dueL text its (List.range (if b then 1 else text.length + 1))) ∧ dueL text its (List.range (if b then 1 else text.length + 1)) ≠ .stuck := by
  have o : ∀ k, Items (pat.drop k) its → ∀ s ≤ text.length, Both text.length 0 [] (mMatch ⟨a, dx, text, pat⟩ 50 s k ⟨0, 0, [], []⟩) (wayD text its s []) := fun k hI s hs =>
    match_sim (mc := ⟨a, dx, text, pat⟩) ht hop (Nat.le_trans hz (by decide)) 50 k (Nat.lt_of_le_of_lt (Nat.le_trans (Nat.sub_le _ _) hz) (by decide)) s ⟨0, 0, [], []⟩ [] its hs ⟨rfl, rfl, rfl, Nat.zero_le _, Nat.zero_le _⟩ (fun p hp => nomatch hp) (by show (0 : Int) + ((pat.length - k : Nat) : Int) < 60; omega) (Nat.le_trans (Nat.le_of_eq (Nat.zero_add _)) (Nat.le_trans (cnt40_mono (Nat.zero_le k)) hc)) hI
  refine found_due (γ := g50 ⟨a, dx, text, pat⟩) ?_
  cases b with
  | true => exact search_step (bs := []) (o 1 hI 0 (Nat.zero_le _)) (Nat.zero_le _) fun σ' => .no
  | false =>
    have er : List.range (text.length + 1) = rangeN 0 (text.length + 1) := (List.map_id' _).symm.trans (List.map_congr_left fun a _ => (Nat.zero_add a).symm)
    show Found _ (dueL text its (List.range (text.length + 1)))
    rw [er]
    exact search_sim (o 0 hI) _ _ 0 _ (Nat.zero_add _) (Nat.lt_succ_self _)
theorem itemD_some {row : List UInt8} (h : isDigs (secB row) = true → secB row = [49]) : ∃ p, itemD row = some p := by
  have k : ∀ {x : It × Nat}, ∃ p, some x = some p := ⟨_, rfl⟩
  have C := @ite1 (Option (It × Nat)) fun o => ∃ p, o = some p
  rw [itemD]
  exact C (fun _ => k) fun _ => C (fun _ => k) fun _ => C (fun _ => k) fun _ => C (fun _ => k) fun _ => C (fun _ => k) fun _ => C (fun q => by rw [if_pos (h q.2)]; exact k) fun _ => k
theorem itemsF_some (n : Nat) : ∀ {row : List UInt8}, row.length < n → (∀ c ∈ row, isDigs [c] = true → c = 49) → ∃ its, itemsF n row = some its := by
  induction n with
  | zero => exact fun h => absurd h (Nat.not_lt_zero _)
  | succ n ih =>
    intro row h hd
    cases row with
    | nil => exact ⟨[], rfl⟩
    | cons c r =>
      obtain ⟨⟨it, z⟩, hi⟩ := itemD_some (row := c :: r) (fun q => by
        cases r with
        | nil => cases q
        | cons d r => exact congrArg (fun x => [x]) (hd d (.tail _ (.head _)) q))
      have hp := itemD_pos (List.cons_ne_nil c r) hi
      obtain ⟨its, h2⟩ := ih (row := (c :: r).drop z) (by rw [List.length_drop]; exact Nat.lt_of_lt_of_le (Nat.sub_lt (Nat.succ_pos _) hp.1) (Nat.le_of_lt_succ h)) fun x hx => hd x (List.mem_of_mem_drop hx)
      refine ⟨it :: its, ?_⟩
      show Option.bind (itemD (c :: r)) _ = _
      rw [hi]
      show (itemsF n ((c :: r).drop z)).map _ = _
      rw [h2]; rfl
theorem cnt_flatten {ps : List (List UInt8)} : (∀ x ∈ ps, (x.filter fun c => c.toNat == 40).length ≤ 1) → (ps.flatten.filter fun c => c.toNat == 40).length ≤ ps.length := by
  induction ps with
  | nil => exact fun _ => Nat.le_refl _
  | cons x ps ih =>
    intro h
    rw [List.flatten_cons, List.filter_append, List.length_append, List.length_cons, Nat.add_comm]
    exact Nat.add_le_add (ih fun y hy => h y (.tail _ hy)) (h x (.head _))
theorem plain_law : Plain := by
  intro ts ps ht1 ht2 hp0 hp1 hp2
  have htx : okText ts.flatten := fun c hc => by
    obtain ⟨x, hx, hcx⟩ := List.mem_flatten.mp hc
    exact (by decide : ∀ x ∈ lettersT, ∀ c ∈ x, c.toNat = 97 ∨ c.toNat = 98 ∨ c.toNat = 49 ∨ c.toNat = 40) x (ht2 x hx) c hcx
  have hpx : ∀ c ∈ ps.flatten, okLetter c.toNat = true ∧ c ≠ 0 ∧ (isDigs [c] = true → c = 49) := fun c hc => by
    obtain ⟨x, hx, hcx⟩ := List.mem_flatten.mp hc
    exact (by decide +kernel : ∀ x ∈ piecesT, ∀ c ∈ x, okLetter c.toNat = true ∧ c ≠ 0 ∧ (isDigs [c] = true → c = 49)) x (hp2 x hx) c hcx
  have l1 : ts.flatten.length ≤ 100 := Nat.le_trans (flatten_len (k := 1) fun x hx => (by decide : ∀ x ∈ lettersT, x.length ≤ 1) x (ht2 x hx)) (by rw [Nat.one_mul]; exact Nat.le_trans ht1 (by decide))
  have l2 : ps.flatten.length ≤ 48 := Nat.le_trans (flatten_len (k := 8) fun x hx => (by decide : ∀ x ∈ piecesT, x.length ≤ 8) x (hp2 x hx)) (Nat.mul_le_mul_left 8 hp1)
  have l3 : cnt40 ps.flatten 0 ≤ 31 := Nat.le_trans (cnt_flatten fun x hx => (by decide : ∀ x ∈ piecesT, (x.filter fun c => c.toNat == 40).length ≤ 1) x (hp2 x hx)) (Nat.le_trans hp1 (by decide))
  clear ht1 ht2 hp0 hp1 hp2
  generalize ts.flatten = text at *
  generalize ps.flatten = pat at *
  have hb : ∃ b : Bool, decide (atN pat 0 = 94) = b ∧ (if atN pat 0 = 94 then 1 else 0) = (if b then 1 else 0) ∧ (if atN pat 0 = 94 then 1 else text.length + 1) = (if b then 1 else text.length + 1) := by
    by_cases h : atN pat 0 = 94
    · exact ⟨true, decide_eq_true h, by rw [if_pos h]; rfl, by rw [if_pos h]; rfl⟩
    · exact ⟨false, decide_eq_false h, by rw [if_neg h]; rfl, by rw [if_neg h]; rfl⟩
  obtain ⟨b, b1, b2, b3⟩ := hb
  obtain ⟨its, hI⟩ := itemsF_some _ (Nat.lt_succ_self _) fun c hc => (hpx c (List.mem_of_mem_drop (i := if b then 1 else 0) (l := pat) hc)).2.2
  have key := fun a dx => heard_due htx (List.all_eq_true.mpr fun c hc => (hpx c hc).1) l2 l3 b ⟨_, hI⟩ a dx
  have hh : ∀ a dx, heardR ⟨a, dx, text, pat⟩ = dueC text (dueL text its (List.range (if b then 1 else text.length + 1))) := fun a dx => by
    show heardG _ (decide (atN pat 0 = 94)) = _
    rw [b1]; exact (key a dx).1
  have hd : dueR text pat = dueC text (dueL text its (List.range (if b then 1 else text.length + 1))) := by
    rw [dueR, b2, b3, hI]; rfl
  have hs := (key 0 0).2
  generalize dueL text its (List.range (if b then 1 else text.length + 1)) = x at hh hd hs
  have hP : heardP text pat = dueC text x := (if_pos ⟨fun c hc => (hpx c hc).2.1, fun a dx => (hh a dx).trans (hh 0 0).symm⟩).trans (hh 0 0)
  have hv : ∃ v, flat3 v = true ∧ dueC text x = .ok v := by
    cases x with
    | ok o => exact ⟨_, dueV_flat text o, rfl⟩
    | err => exact ⟨_, rfl, rfl⟩
    | stuck => exact absurd rfl hs
  obtain ⟨v, v1, v2⟩ := hv
  refine ⟨v, v1, ?_, ?_⟩
  · show (heardP text pat).bind _ = _
    rw [hP, v2]; rfl
  · refine (if_pos ⟨fun c hc => ?_, l1, Nat.le_trans l2 (by decide)⟩).trans (by rw [hd, v2]; rfl)
    rcases htx c hc with h | h | h | h <;> (rw [h]; decide)
set_option maxHeartbeats 8000000
end Mine
theorem Mine.trimmed (h : Heap) (hl : ∃ b o, h.get? b = some o) : ∃ g : Heap, (∀ b, g.get? b = h.get? b) ∧ ∃ o, g.get? (g.objs.size - 1) = some o := by
  have key : ∀ n : Nat, (∀ b : Nat, n ≤ b → h.get? b = none) → ∃ g : Heap, (∀ b, g.get? b = h.get? b) ∧ ∃ o, g.get? (g.objs.size - 1) = some o := by
    intro n
    induction n with
    | zero =>
      intro hn
      obtain ⟨b, o, e⟩ := hl
      rw [hn b (Nat.zero_le _)] at e; cases e
    | succ n ih =>
      intro hn
      cases q : h.get? n with
      | none =>
        refine ih fun b hb => ?_
        rcases Nat.eq_or_lt_of_le hb with e | hb
        · rw [← e]; exact q
        · exact hn b hb
      | some o =>
        have hlt : n < h.objs.size := Heap.lt_size q
        have sz : (h.objs.extract 0 (n + 1)).size = n + 1 := by rw [Array.size_extract]; omega
        have eg : ∀ b, (⟨h.objs.extract 0 (n + 1), h.life⟩ : Heap).get? b = h.get? b := fun b => by
          rcases Nat.lt_or_ge b (n + 1) with hb | hb
          · unfold Heap.get?
            have : (h.objs.extract 0 (n + 1))[b]? = h.objs[b]? := by
              rw [Array.getElem?_extract]
              simp
              intro z
              omega
            rw [show (⟨h.objs.extract 0 (n + 1), h.life⟩ : Heap).objs[b]? = h.objs[b]? from this]
          · rw [hn b hb]
            unfold Heap.get?
            have : (h.objs.extract 0 (n + 1))[b]? = none := Array.getElem?_eq_none (by omega)
            rw [show (⟨h.objs.extract 0 (n + 1), h.life⟩ : Heap).objs[b]? = none from this]
        refine ⟨_, eg, o, ?_⟩
        show (⟨h.objs.extract 0 (n + 1), h.life⟩ : Heap).get? ((h.objs.extract 0 (n + 1)).size - 1) = _
        rw [sz, eg]
        exact q
  refine key h.objs.size fun b hb => ?_
  cases q : h.get? b with
  | none => rfl
  | some o => exact absurd (Heap.lt_size q) (Nat.not_lt.mpr hb)
theorem Mine.repL_ints {X : List Addr} {h : Heap} {vs : List Value} {zs : List Int} (hI : IntsAre vs zs) : Mine.RepL X h vs (zs.map Mine.V.int) := by
  induction hI with
  | nil => exact .nil
  | cons i t _ ih => exact .cons (.int i t) ih
theorem Mine.rep_ints {h : Heap} {a : Addr} {vs : List Value} {zs : List Int} (hL : h.IsList a vs.toArray) (hI : IntsAre vs zs) (hz : zs.length ≤ 63) : Mine.Rep [] h (.ref a) (.lst (zs.map Mine.V.int)) := by
  obtain ⟨o, ho, hc, n, hd⟩ := hL
  exact .lst ho hc hd (fun z => nomatch z) (Mine.repL_ints hI) (by rw [List.length_map]; omega)
theorem Mine.law_at (w : World) : nsIn (Mine.KF w.params) mainGlobals (Str.ofString "law") = some (some (.ref 336)) := by kernel_rfl
theorem Mine.fa_eq {w : World} {h : Heap} {mg : Str → Option Value} {fa : Addr} (X : (Mine.KF w.params).In h) (G : h.Ns mainGlobals mg) (e : mg (Str.ofString "law") = some (.ref fa)) : fa = 336 := by
  have h1 := mg_of X G (Mine.law_at w)
  rw [h1] at e
  have e := Option.some.inj e
  injection e with e
  exact e.symm
set_option maxHeartbeats 4000000 in
theorem Mine.saidL : OpenLaw.wellSaid Challenge.rw_sa0469_01 = true := by
  unfold OpenLaw.wellSaid OpenRow.wellSaid OpenRow.partSaid looksOpen
  repeat' with_reducible refine look_both ?_ ?_
  all_goals decide +kernel
theorem Mine.holds_of (PL : Mine.Plain) : PySem.Challenge.rw_sa0469_01.Holds := by
  w_on
  refine holds_law Mine.saidL fun said => ?_
  refine holds_open (q := Mine.VW) (loose := [Str.ofString "_law_pieces"]) (Xt := fun s => xlAt Mine.VW [] s && recOk (RowW.records Challenge.rw_sa0469_01.row.toRowW) s) (XP := XL Mine.VW []) (Yf := Mine.HK.obs) (Ya := Mine.HK.val) (YP := Mine.HK.says) (N := 4114) Mine.whole Mine.HK.of Mine.HK.keeps (fun s e => xl_of s (Bool.and_eq_true_iff.mp e).1) XL.keeps (by rfl) (by rfl) (by rfl) (fun s e => recFacts_of (Bool.and_eq_true_iff.mp e).2) (by rfl) (by first | assumption | decide +kernel) (by decide +kernel) ⟨rfl, rfl, rfl, rfl, rfl, by decide +kernel⟩ ?hw ?hc
  case hw => w_witness2
  case' hc => skip
  intro w s₀ s₁ mg mb G Y fa o pm cd doc dV kV ho hd' hcd hD hmg hg args vals as hpre hlay hrd hwl hlo
  have KX := kIn_of Y
  have X := (Ground.X G).1
  have V := (Ground.X G).2
  try w_nolog (first | (have GL := glob_more (Ground.glob G (by decide +kernel) (by decide +kernel)) V) | (have GL := glob_more (Ground.glob G (by decide +kernel)) V))
  refine Ground.open G ?_
  intro T B D TE TW
  try (refine guard_noD D (by decide +kernel) ?_; clear D)
  obtain ⟨_, _, M⟩ := bmod_of_top T
  have TA := at_of_top T
  try (obtain ⟨_, _, he, B0⟩ := based_of_top T rfl hmg ho hd'; have he' : cd = _ := he; subst he'; clear he)
  wrow_args hpre hlay hrd hwl hlo
  all_goals first | refine callC_kw (enter_call ?_) | refine enter_call ?_ | refine callC_kw (enter_callW ?_) | refine enter_callW ?_ | w_how
  w_top on
  try refine codeAny_mono ?_ (fun _ _ g => GoodW.toG g)
  rename_i zs hs0 hl0 hL1 hr1 hl2 ls2 ls1 la vs las hL ra w1 r0 hI hr2 hlen hc2
  have hfa : fa = 336 := Mine.fa_eq KX T.g hmg
  subst hfa
  obtain ⟨g', e1, e2⟩ := Mine.trimmed s₁.heap ⟨_, _, ho⟩
  have kk : ∀ b o, s₁.heap.get? b = some o → g'.get? b = some o := fun b o e => (e1 b).trans e
  let GG : Mine.Gd (KF w.params) := ⟨_, _, mg, mb, g', fun b o e => kk _ _ (KX b o e), (topRead_of T).keeps kk, e2⟩
  refine Mine.law_walk (G := GG) PL callerA [] s₁ (.ref la) zs _ ⟨rfl, rfl, by decide +kernel, by decide +kernel⟩ (fun b o e => (e1 b).symm.trans e) trivial (Mine.rep_ints hL hI (by omega)) (by omega) fun h' tk st _ _ => ?_
  refine ⟨.inl ⟨.bool true, .bool true, [], rfl, fun _ => rfl, ?_, ?_, fun _ => ⟨.nil, fun a ha => nomatch ha⟩⟩, fun b o e => st b o (kk b o e), rfl, hg⟩
  · exact .bool _
  · kernel_rfl
theorem PySem.Challenge.cw_sa0469_01_holds : PySem.Challenge.rw_sa0469_01.Holds :=
  Mine.holds_of Mine.plain_law
