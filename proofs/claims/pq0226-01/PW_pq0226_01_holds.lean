import PyProof.Rows.All
import Wide.All
import OpenK.AllK
import Wide.FinOn
import PySem.Challenge.RW_pq0226_01
set_option Elab.async false
set_option compiler.extract_closed false
set_option genSizeOf false
set_option linter.unusedVariables false
section
open PySem PySem.W PySem.Calls PyProof.Rows
namespace Mine
noncomputable abbrev pw : Program := PySem.Challenge.pw_pq0226_01
noncomputable def stAt (i : Nat) : Stmt := pw.main.body.getD i (.Pass default)
noncomputable def inCls (s : Stmt) (j : Nat) : Stmt := match s with
  | .ClassDef _ _ _ b _ _ _ _ _ _ _ => b.getD j (.Pass default)
  | _ => .Pass default
noncomputable def fnO (s : Stmt) (qual : Str) (dV cd : Value) (pm : Str) (pt : Tok) : Obj := match s with
  | .FunctionDef n a b _ _ _ sc _ _ _ => { cls := .type "function", data := .func (fnOf n qual a b sc dV .none .none (.str pm pt) none cd .none) }
  | _ => default
noncomputable def KK (P : Params) : Frag := [
  (2, { cls := Value.none, data := Data.dict #[{ hash := PyData.keyHash P (Str.ofString "type.__subclasses__.Exception.0"), key := Value.str (Str.ofString "type.__subclasses__.Exception.0") 224, val := Value.int 39 0 }, { hash := PyData.keyHash P (Str.ofString "type.__subclasses__.Exception.n"), key := Value.str (Str.ofString "type.__subclasses__.Exception.n") 225, val := Value.int 1 0 }] 2 }),
  (3, { cls := Value.type "dict", data := Data.dict #[{ hash := PyData.keyHash P (Str.ofString "__name__"), key := Value.str (Str.ofString "__name__") 165, val := Value.str (Str.ofString "law_pq0226_01") 564 }, { hash := PyData.keyHash P (Str.ofString "__doc__"), key := Value.str (Str.ofString "__doc__") 166, val := Value.none }, { hash := PyData.keyHash P (Str.ofString "__package__"), key := Value.str (Str.ofString "__package__") 167, val := Value.none }, { hash := PyData.keyHash P (Str.ofString "__loader__"), key := Value.str (Str.ofString "__loader__") 168, val := Value.builtin "__main__.__loader__#opaque" }, { hash := PyData.keyHash P (Str.ofString "__spec__"), key := Value.str (Str.ofString "__spec__") 169, val := Value.none }, { hash := PyData.keyHash P (Str.ofString "__annotations__"), key := Value.str (Str.ofString "__annotations__") 170, val := Value.ref 6 }, { hash := PyData.keyHash P (Str.ofString "__builtins__"), key := Value.str (Str.ofString "__builtins__") 171, val := Value.ref 4 }, { hash := PyData.keyHash P (Str.ofString "__file__"), key := Value.str (Str.ofString "__file__") 173, val := Value.str (Str.ofString "/claim/cut.py") 172 }, { hash := PyData.keyHash P (Str.ofString "__cached__"), key := Value.str (Str.ofString "__cached__") 174, val := Value.none }, { hash := PyData.keyHash P (Str.ofString "_wall"), key := Value.str (Str.ofString "_wall") 193, val := Value.ref 21 }, { hash := PyData.keyHash P (Str.ofString "ChanError"), key := Value.str (Str.ofString "ChanError") 227, val := Value.ref 39 }, { hash := PyData.keyHash P (Str.ofString "NameFault"), key := Value.str (Str.ofString "NameFault") 243, val := Value.ref 52 }, { hash := PyData.keyHash P (Str.ofString "TypeFault"), key := Value.str (Str.ofString "TypeFault") 259, val := Value.ref 64 }, { hash := PyData.keyHash P (Str.ofString "Reached"), key := Value.str (Str.ofString "Reached") 294, val := Value.ref 84 }, { hash := PyData.keyHash P (Str.ofString "without_pointer"), key := Value.str (Str.ofString "without_pointer") 301, val := Value.ref 95 }, { hash := PyData.keyHash P (Str.ofString "own_methods"), key := Value.str (Str.ofString "own_methods") 309, val := Value.ref 102 }, { hash := PyData.keyHash P (Str.ofString "members_at"), key := Value.str (Str.ofString "members_at") 315, val := Value.ref 107 }, { hash := PyData.keyHash P (Str.ofString "embedded_in"), key := Value.str (Str.ofString "embedded_in") 329, val := Value.ref 114 }, { hash := PyData.keyHash P (Str.ofString "Levels"), key := Value.str (Str.ofString "Levels") 371, val := Value.ref 138 }, { hash := PyData.keyHash P (Str.ofString "start_type"), key := Value.str (Str.ofString "start_type") 381, val := Value.ref 149 }, { hash := PyData.keyHash P (Str.ofString "find_member"), key := Value.str (Str.ofString "find_member") 395, val := Value.ref 156 }, { hash := PyData.keyHash P (Str.ofString "names_of_methods"), key := Value.str (Str.ofString "names_of_methods") 411, val := Value.ref 163 }, { hash := PyData.keyHash P (Str.ofString "member_or_none"), key := Value.str (Str.ofString "member_or_none") 420, val := Value.ref 170 }, { hash := PyData.keyHash P (Str.ofString "is_in_set"), key := Value.str (Str.ofString "is_in_set") 426, val := Value.ref 175 }, { hash := PyData.keyHash P (Str.ofString "method_set"), key := Value.str (Str.ofString "method_set") 439, val := Value.ref 182 }, { hash := PyData.keyHash P (Str.ofString "MOST_PARTS"), key := Value.str (Str.ofString "MOST_PARTS") 443, val := Value.int 2000 442 }, { hash := PyData.keyHash P (Str.ofString "MOST_LEVELS"), key := Value.str (Str.ofString "MOST_LEVELS") 445, val := Value.int 100 444 }, { hash := PyData.keyHash P (Str.ofString "want_few_parts"), key := Value.str (Str.ofString "want_few_parts") 451, val := Value.ref 187 }, { hash := PyData.keyHash P (Str.ofString "PLAIN"), key := Value.str (Str.ofString "PLAIN") 455, val := Value.ref 190 }, { hash := PyData.keyHash P (Str.ofString "NamedRow"), key := Value.str (Str.ofString "NamedRow") 490, val := Value.ref 207 }, { hash := PyData.keyHash P (Str.ofString "known_rows"), key := Value.str (Str.ofString "known_rows") 503, val := Value.ref 218 }, { hash := PyData.keyHash P (Str.ofString "World"), key := Value.str (Str.ofString "World") 563, val := Value.ref 250 }, { hash := PyData.keyHash P (Str.ofString "_law_pool"), key := Value.str (Str.ofString "_law_pool") 576, val := Value.ref 261 }, { hash := PyData.keyHash P (Str.ofString "_law_take"), key := Value.str (Str.ofString "_law_take") 585, val := Value.ref 268 }, { hash := PyData.keyHash P (Str.ofString "_law_one"), key := Value.str (Str.ofString "_law_one") 593, val := Value.ref 275 }, { hash := PyData.keyHash P (Str.ofString "_law_func"), key := Value.str (Str.ofString "_law_func") 596, val := Value.ref 279 }, { hash := PyData.keyHash P (Str.ofString "_law_drawn"), key := Value.str (Str.ofString "_law_drawn") 602, val := Value.ref 284 }, { hash := PyData.keyHash P (Str.ofString "_law_world"), key := Value.str (Str.ofString "_law_world") 614, val := Value.ref 291 }, { hash := PyData.keyHash P (Str.ofString "_law_found"), key := Value.str (Str.ofString "_law_found") 620, val := Value.ref 296 }, { hash := PyData.keyHash P (Str.ofString "_law_told"), key := Value.str (Str.ofString "_law_told") 629, val := Value.ref 303 }, { hash := PyData.keyHash P (Str.ofString "_law_layers_right"), key := Value.str (Str.ofString "_law_layers_right") 635, val := Value.ref 308 }, { hash := PyData.keyHash P (Str.ofString "_law_deep_right"), key := Value.str (Str.ofString "_law_deep_right") 641, val := Value.ref 313 }, { hash := PyData.keyHash P (Str.ofString "_law_told_few"), key := Value.str (Str.ofString "_law_told_few") 649, val := Value.ref 320 }, { hash := PyData.keyHash P (Str.ofString "_law_parts_right"), key := Value.str (Str.ofString "_law_parts_right") 655, val := Value.ref 325 }, { hash := PyData.keyHash P (Str.ofString "law"), key := Value.str (Str.ofString "law") 666, val := Value.ref 332 }] 45 }),
  (15, { cls := Value.type "tuple", data := Data.seq #[] }),
  (17, { cls := Value.type "tuple", data := Data.seq #[Value.str (Str.ofString "k") 190] }),
  (18, { cls := Value.type "tuple", data := Data.seq #[] }),
  (20, { cls := Value.type "code", data := Data.fields #[Value.str (Str.ofString "_wall") 187, Value.str (Str.ofString "_wall") 188, Value.str (Str.ofString "/claim/cut.py") 189, Value.int 1 0, Value.int 1 0, Value.int 0 0, Value.int 0 0, Value.int 3 0, Value.ref 15, Value.bool true, Value.int 181 0, Value.ref 16, Value.none, Value.ref 17, Value.ref 18, Value.ref 19, Value.int 191 0, Value.int 1 0, Value.str (Str.ofString "/claim/cut.py") 192] }),
  (21, fnO (stAt 0) "_wall" (Value.none) (.ref 20) "__main__" 164),
  (22, { cls := Value.type "tuple", data := Data.seq #[Value.type "Exception"] }),
  (29, { cls := Value.type "tuple", data := Data.seq #[Value.int 0 208] }),
  (30, { cls := Value.type "tuple", data := Data.seq #[] }),
  (32, { cls := Value.type "tuple", data := Data.seq #[Value.str (Str.ofString "self") 212, Value.str (Str.ofString "message") 213, Value.str (Str.ofString "spot") 214] }),
  (33, { cls := Value.type "tuple", data := Data.seq #[] }),
  (35, { cls := Value.type "code", data := Data.fields #[Value.str (Str.ofString "__init__") 209, Value.str (Str.ofString "ChanError.__init__") 210, Value.str (Str.ofString "/claim/cut.py") 211, Value.int 7 0, Value.int 3 0, Value.int 0 0, Value.int 0 0, Value.int 3 0, Value.ref 30, Value.bool true, Value.int 181 0, Value.ref 31, Value.none, Value.ref 32, Value.ref 33, Value.ref 34, Value.int 215 0, Value.int 7 0, Value.str (Str.ofString "/claim/cut.py") 216] }),
  (36, fnO (inCls (stAt 2) 0) "ChanError.__init__" (Value.ref 29) (.ref 35) "chancore.errors" 194),
  (37, { cls := Value.type "tuple", data := Data.seq #[Value.str (Str.ofString "message") 218, Value.str (Str.ofString "spot") 219] }),
  (38, { cls := Value.type "dict", data := Data.dict #[{ hash := PyData.keyHash P (Str.ofString "__module__"), key := Value.str (Str.ofString "__module__") 203, val := Value.str (Str.ofString "chancore.errors") 194 }, { hash := PyData.keyHash P (Str.ofString "__firstlineno__"), key := Value.str (Str.ofString "__firstlineno__") 207, val := Value.int 5 206 }, { hash := PyData.keyHash P (Str.ofString "__init__"), key := Value.str (Str.ofString "__init__") 217, val := Value.ref 36 }, { hash := PyData.keyHash P (Str.ofString "__static_attributes__"), key := Value.str (Str.ofString "__static_attributes__") 220, val := Value.ref 37 }, { hash := PyData.keyHash P (Str.ofString "__weakref__"), key := Value.str (Str.ofString "__weakref__") 222, val := Value.ref 40 }, { hash := PyData.keyHash P (Str.ofString "__doc__"), key := Value.str (Str.ofString "__doc__") 223, val := Value.none }] 3 }),
  (39, { cls := Value.type "type", data := Data.cls { name := Str.ofString "ChanError", bases := [Value.type "Exception"], mro := [Value.ref 39, Value.type "Exception", Value.type "BaseException", Value.type "object"], ns := 38, qualname := Str.ofString "ChanError", subclasses := [Value.ref 52, Value.ref 64] }, slots := #[some (Value.ref 22), none, some (Value.str (Str.ofString "ChanError") 196), some (Value.str (Str.ofString "ChanError") 204), some (Value.builtin "Exception.__new__"), some (Value.bool true)] }),
  (40, { cls := Value.type "getset_descriptor", data := Data.fields #[Value.str (Str.ofString "__weakref__") 221, Value.ref 39, Value.builtin "ExceptionGroup.__weakref__", Value.none] }),
  (43, { cls := Value.type "tuple", data := Data.seq #[Value.ref 39] }),
  (50, { cls := Value.type "tuple", data := Data.seq #[] }),
  (51, { cls := Value.type "dict", data := Data.dict #[{ hash := PyData.keyHash P (Str.ofString "__module__"), key := Value.str (Str.ofString "__module__") 235, val := Value.str (Str.ofString "chancore.errors") 194 }, { hash := PyData.keyHash P (Str.ofString "__firstlineno__"), key := Value.str (Str.ofString "__firstlineno__") 239, val := Value.int 11 238 }, { hash := PyData.keyHash P (Str.ofString "__static_attributes__"), key := Value.str (Str.ofString "__static_attributes__") 240, val := Value.ref 50 }, { hash := PyData.keyHash P (Str.ofString "__doc__"), key := Value.str (Str.ofString "__doc__") 241, val := Value.none }] 2 }),
  (52, { cls := Value.type "type", data := Data.cls { name := Str.ofString "NameFault", bases := [Value.ref 39], mro := [Value.ref 52, Value.ref 39, Value.type "Exception", Value.type "BaseException", Value.type "object"], ns := 51, qualname := Str.ofString "NameFault" }, slots := #[some (Value.ref 43), none, some (Value.str (Str.ofString "NameFault") 228), some (Value.str (Str.ofString "NameFault") 236), some (Value.builtin "Exception.__new__"), some (Value.bool true)] }),
  (55, { cls := Value.type "tuple", data := Data.seq #[Value.ref 39] }),
  (62, { cls := Value.type "tuple", data := Data.seq #[] }),
  (63, { cls := Value.type "dict", data := Data.dict #[{ hash := PyData.keyHash P (Str.ofString "__module__"), key := Value.str (Str.ofString "__module__") 251, val := Value.str (Str.ofString "chancore.errors") 194 }, { hash := PyData.keyHash P (Str.ofString "__firstlineno__"), key := Value.str (Str.ofString "__firstlineno__") 255, val := Value.int 13 254 }, { hash := PyData.keyHash P (Str.ofString "__static_attributes__"), key := Value.str (Str.ofString "__static_attributes__") 256, val := Value.ref 62 }, { hash := PyData.keyHash P (Str.ofString "__doc__"), key := Value.str (Str.ofString "__doc__") 257, val := Value.none }] 2 }),
  (64, { cls := Value.type "type", data := Data.cls { name := Str.ofString "TypeFault", bases := [Value.ref 39], mro := [Value.ref 64, Value.ref 39, Value.type "Exception", Value.type "BaseException", Value.type "object"], ns := 63, qualname := Str.ofString "TypeFault" }, slots := #[some (Value.ref 55), none, some (Value.str (Str.ofString "TypeFault") 244), some (Value.str (Str.ofString "TypeFault") 252), some (Value.builtin "Exception.__new__"), some (Value.bool true)] }),
  (74, { cls := Value.type "tuple", data := Data.seq #[Value.bool false] }),
  (75, { cls := Value.type "tuple", data := Data.seq #[] }),
  (77, { cls := Value.type "tuple", data := Data.seq #[Value.str (Str.ofString "self") 277, Value.str (Str.ofString "told") 278, Value.str (Str.ofString "steps") 279, Value.str (Str.ofString "is_twice") 280] }),
  (78, { cls := Value.type "tuple", data := Data.seq #[] }),
  (80, { cls := Value.type "code", data := Data.fields #[Value.str (Str.ofString "__init__") 274, Value.str (Str.ofString "Reached.__init__") 275, Value.str (Str.ofString "/claim/cut.py") 276, Value.int 18 0, Value.int 4 0, Value.int 0 0, Value.int 0 0, Value.int 3 0, Value.ref 75, Value.bool true, Value.int 181 0, Value.ref 76, Value.none, Value.ref 77, Value.ref 78, Value.ref 79, Value.int 281 0, Value.int 18 0, Value.str (Str.ofString "/claim/cut.py") 282] }),
  (81, fnO (inCls (stAt 6) 0) "Reached.__init__" (Value.ref 74) (.ref 80) "chancore.lookup" 260),
  (82, { cls := Value.type "tuple", data := Data.seq #[Value.str (Str.ofString "is_twice") 284, Value.str (Str.ofString "steps") 285, Value.str (Str.ofString "told") 286] }),
  (83, { cls := Value.type "dict", data := Data.dict #[{ hash := PyData.keyHash P (Str.ofString "__module__"), key := Value.str (Str.ofString "__module__") 269, val := Value.str (Str.ofString "chancore.lookup") 260 }, { hash := PyData.keyHash P (Str.ofString "__firstlineno__"), key := Value.str (Str.ofString "__firstlineno__") 273, val := Value.int 16 272 }, { hash := PyData.keyHash P (Str.ofString "__init__"), key := Value.str (Str.ofString "__init__") 283, val := Value.ref 81 }, { hash := PyData.keyHash P (Str.ofString "__static_attributes__"), key := Value.str (Str.ofString "__static_attributes__") 287, val := Value.ref 82 }, { hash := PyData.keyHash P (Str.ofString "__dict__"), key := Value.str (Str.ofString "__dict__") 289, val := Value.ref 85 }, { hash := PyData.keyHash P (Str.ofString "__weakref__"), key := Value.str (Str.ofString "__weakref__") 291, val := Value.ref 86 }, { hash := PyData.keyHash P (Str.ofString "__doc__"), key := Value.str (Str.ofString "__doc__") 292, val := Value.none }] 4 }),
  (84, { cls := Value.type "type", data := Data.cls { name := Str.ofString "Reached", bases := [Value.type "object"], mro := [Value.ref 84, Value.type "object"], ns := 83, qualname := Str.ofString "Reached" }, slots := #[none, none, some (Value.str (Str.ofString "Reached") 262), some (Value.str (Str.ofString "Reached") 270), some (Value.builtin "object.__new__"), some (Value.bool true)] }),
  (85, { cls := Value.type "getset_descriptor", data := Data.fields #[Value.str (Str.ofString "__dict__") 288, Value.ref 84, Value.builtin "function.__dict__", Value.builtin "function.__dict__#set"] }),
  (86, { cls := Value.type "getset_descriptor", data := Data.fields #[Value.str (Str.ofString "__weakref__") 290, Value.ref 84, Value.builtin "ExceptionGroup.__weakref__", Value.none] }),
  (89, { cls := Value.type "tuple", data := Data.seq #[] }),
  (91, { cls := Value.type "tuple", data := Data.seq #[Value.str (Str.ofString "told") 298] }),
  (92, { cls := Value.type "tuple", data := Data.seq #[] }),
  (94, { cls := Value.type "code", data := Data.fields #[Value.str (Str.ofString "without_pointer") 295, Value.str (Str.ofString "without_pointer") 296, Value.str (Str.ofString "/claim/cut.py") 297, Value.int 22 0, Value.int 1 0, Value.int 0 0, Value.int 0 0, Value.int 3 0, Value.ref 89, Value.bool true, Value.int 181 0, Value.ref 90, Value.none, Value.ref 91, Value.ref 92, Value.ref 93, Value.int 299 0, Value.int 22 0, Value.str (Str.ofString "/claim/cut.py") 300] }),
  (95, fnO (stAt 7) "without_pointer" (Value.none) (.ref 94) "chancore.lookup" 260),
  (96, { cls := Value.type "tuple", data := Data.seq #[] }),
  (98, { cls := Value.type "tuple", data := Data.seq #[Value.str (Str.ofString "world") 305, Value.str (Str.ofString "told") 306] }),
  (99, { cls := Value.type "tuple", data := Data.seq #[] }),
  (101, { cls := Value.type "code", data := Data.fields #[Value.str (Str.ofString "own_methods") 302, Value.str (Str.ofString "own_methods") 303, Value.str (Str.ofString "/claim/cut.py") 304, Value.int 24 0, Value.int 2 0, Value.int 0 0, Value.int 0 0, Value.int 3 0, Value.ref 96, Value.bool true, Value.int 181 0, Value.ref 97, Value.none, Value.ref 98, Value.ref 99, Value.ref 100, Value.int 307 0, Value.int 24 0, Value.str (Str.ofString "/claim/cut.py") 308] }),
  (102, fnO (stAt 8) "own_methods" (Value.none) (.ref 101) "chancore.lookup" 260),
  (103, { cls := Value.type "tuple", data := Data.seq #[] }),
  (106, { cls := Value.type "code", data := Data.fields #[Value.str (Str.ofString "members_at") 310, Value.str (Str.ofString "members_at") 311, Value.str (Str.ofString "/claim/cut.py") 312, Value.int 26 0, Value.int 3 0, Value.int 0 0, Value.int 0 0, Value.int 3 0, Value.ref 103, Value.bool true, Value.int 181 0, Value.ref 104, Value.none, Value.none, Value.none, Value.ref 105, Value.int 313 0, Value.int 26 0, Value.str (Str.ofString "/claim/cut.py") 314] }),
  (107, fnO (stAt 9) "members_at" (Value.none) (.ref 106) "chancore.lookup" 260),
  (108, { cls := Value.type "tuple", data := Data.seq #[] }),
  (110, { cls := Value.type "tuple", data := Data.seq #[Value.str (Str.ofString "world") 319, Value.str (Str.ofString "reached") 320, Value.str (Str.ofString "base") 321, Value.str (Str.ofString "found") 322, Value.str (Str.ofString "k") 323, Value.str (Str.ofString "row") 324, Value.str (Str.ofString "is_pointer") 325, Value.str (Str.ofString "steps") 326] }),
  (111, { cls := Value.type "tuple", data := Data.seq #[] }),
  (113, { cls := Value.type "code", data := Data.fields #[Value.str (Str.ofString "embedded_in") 316, Value.str (Str.ofString "embedded_in") 317, Value.str (Str.ofString "/claim/cut.py") 318, Value.int 40 0, Value.int 2 0, Value.int 0 0, Value.int 0 0, Value.int 3 0, Value.ref 108, Value.bool true, Value.int 181 0, Value.ref 109, Value.none, Value.ref 110, Value.ref 111, Value.ref 112, Value.int 327 0, Value.int 40 0, Value.str (Str.ofString "/claim/cut.py") 328] }),
  (114, fnO (stAt 10) "embedded_in" (Value.none) (.ref 113) "chancore.lookup" 260),
  (122, { cls := Value.type "tuple", data := Data.seq #[] }),
  (124, { cls := Value.type "tuple", data := Data.seq #[Value.str (Str.ofString "self") 345, Value.str (Str.ofString "world") 346, Value.str (Str.ofString "told") 347] }),
  (125, { cls := Value.type "tuple", data := Data.seq #[] }),
  (127, { cls := Value.type "code", data := Data.fields #[Value.str (Str.ofString "__init__") 342, Value.str (Str.ofString "Levels.__init__") 343, Value.str (Str.ofString "/claim/cut.py") 344, Value.int 51 0, Value.int 3 0, Value.int 0 0, Value.int 0 0, Value.int 3 0, Value.ref 122, Value.bool true, Value.int 181 0, Value.ref 123, Value.none, Value.ref 124, Value.ref 125, Value.ref 126, Value.int 348 0, Value.int 51 0, Value.str (Str.ofString "/claim/cut.py") 349] }),
  (128, fnO (inCls (stAt 11) 0) "Levels.__init__" (Value.none) (.ref 127) "chancore.lookup" 260),
  (129, { cls := Value.type "tuple", data := Data.seq #[] }),
  (131, { cls := Value.type "tuple", data := Data.seq #[Value.str (Str.ofString "self") 354, Value.str (Str.ofString "reached") 355, Value.str (Str.ofString "later") 356, Value.str (Str.ofString "inner") 357] }),
  (132, { cls := Value.type "tuple", data := Data.seq #[] }),
  (134, { cls := Value.type "code", data := Data.fields #[Value.str (Str.ofString "go_on") 351, Value.str (Str.ofString "Levels.go_on") 352, Value.str (Str.ofString "/claim/cut.py") 353, Value.int 56 0, Value.int 1 0, Value.int 0 0, Value.int 0 0, Value.int 3 0, Value.ref 129, Value.bool true, Value.int 181 0, Value.ref 130, Value.none, Value.ref 131, Value.ref 132, Value.ref 133, Value.int 358 0, Value.int 56 0, Value.str (Str.ofString "/claim/cut.py") 359] }),
  (135, fnO (inCls (stAt 11) 1) "Levels.go_on" (Value.none) (.ref 134) "chancore.lookup" 260),
  (136, { cls := Value.type "tuple", data := Data.seq #[Value.str (Str.ofString "here") 361, Value.str (Str.ofString "seen") 362, Value.str (Str.ofString "world") 363] }),
  (137, { cls := Value.type "dict", data := Data.dict #[{ hash := PyData.keyHash P (Str.ofString "__module__"), key := Value.str (Str.ofString "__module__") 337, val := Value.str (Str.ofString "chancore.lookup") 260 }, { hash := PyData.keyHash P (Str.ofString "__firstlineno__"), key := Value.str (Str.ofString "__firstlineno__") 341, val := Value.int 49 340 }, { hash := PyData.keyHash P (Str.ofString "__init__"), key := Value.str (Str.ofString "__init__") 350, val := Value.ref 128 }, { hash := PyData.keyHash P (Str.ofString "go_on"), key := Value.str (Str.ofString "go_on") 360, val := Value.ref 135 }, { hash := PyData.keyHash P (Str.ofString "__static_attributes__"), key := Value.str (Str.ofString "__static_attributes__") 364, val := Value.ref 136 }, { hash := PyData.keyHash P (Str.ofString "__dict__"), key := Value.str (Str.ofString "__dict__") 366, val := Value.ref 139 }, { hash := PyData.keyHash P (Str.ofString "__weakref__"), key := Value.str (Str.ofString "__weakref__") 368, val := Value.ref 140 }, { hash := PyData.keyHash P (Str.ofString "__doc__"), key := Value.str (Str.ofString "__doc__") 369, val := Value.none }] 4 }),
  (138, { cls := Value.type "type", data := Data.cls { name := Str.ofString "Levels", bases := [Value.type "object"], mro := [Value.ref 138, Value.type "object"], ns := 137, qualname := Str.ofString "Levels" }, slots := #[none, none, some (Value.str (Str.ofString "Levels") 330), some (Value.str (Str.ofString "Levels") 338), some (Value.builtin "object.__new__"), some (Value.bool true)] }),
  (139, { cls := Value.type "getset_descriptor", data := Data.fields #[Value.str (Str.ofString "__dict__") 365, Value.ref 138, Value.builtin "function.__dict__", Value.builtin "function.__dict__#set"] }),
  (140, { cls := Value.type "getset_descriptor", data := Data.fields #[Value.str (Str.ofString "__weakref__") 367, Value.ref 138, Value.builtin "ExceptionGroup.__weakref__", Value.none] }),
  (143, { cls := Value.type "tuple", data := Data.seq #[] }),
  (145, { cls := Value.type "tuple", data := Data.seq #[Value.str (Str.ofString "world") 375, Value.str (Str.ofString "told") 376, Value.str (Str.ofString "inner") 377, Value.str (Str.ofString "base") 378] }),
  (146, { cls := Value.type "tuple", data := Data.seq #[] }),
  (148, { cls := Value.type "code", data := Data.fields #[Value.str (Str.ofString "start_type") 372, Value.str (Str.ofString "start_type") 373, Value.str (Str.ofString "/claim/cut.py") 374, Value.int 68 0, Value.int 2 0, Value.int 0 0, Value.int 0 0, Value.int 3 0, Value.ref 143, Value.bool true, Value.int 181 0, Value.ref 144, Value.none, Value.ref 145, Value.ref 146, Value.ref 147, Value.int 379 0, Value.int 68 0, Value.str (Str.ofString "/claim/cut.py") 380] }),
  (149, fnO (stAt 12) "start_type" (Value.none) (.ref 148) "chancore.lookup" 260),
  (150, { cls := Value.type "tuple", data := Data.seq #[] }),
  (152, { cls := Value.type "tuple", data := Data.seq #[Value.str (Str.ofString "world") 385, Value.str (Str.ofString "told") 386, Value.str (Str.ofString "name") 387, Value.str (Str.ofString "begun") 388, Value.str (Str.ofString "levels") 389, Value.str (Str.ofString "found") 390, Value.str (Str.ofString "reached") 391, Value.str (Str.ofString "some") 392] }),
  (153, { cls := Value.type "tuple", data := Data.seq #[] }),
  (155, { cls := Value.type "code", data := Data.fields #[Value.str (Str.ofString "find_member") 382, Value.str (Str.ofString "find_member") 383, Value.str (Str.ofString "/claim/cut.py") 384, Value.int 76 0, Value.int 3 0, Value.int 0 0, Value.int 0 0, Value.int 3 0, Value.ref 150, Value.bool true, Value.int 181 0, Value.ref 151, Value.none, Value.ref 152, Value.ref 153, Value.ref 154, Value.int 393 0, Value.int 76 0, Value.str (Str.ofString "/claim/cut.py") 394] }),
  (156, fnO (stAt 13) "find_member" (Value.none) (.ref 155) "chancore.lookup" 260),
  (157, { cls := Value.type "tuple", data := Data.seq #[] }),
  (159, { cls := Value.type "tuple", data := Data.seq #[Value.str (Str.ofString "world") 401, Value.str (Str.ofString "told") 402, Value.str (Str.ofString "levels") 403, Value.str (Str.ofString "found") 404, Value.str (Str.ofString "reached") 405, Value.str (Str.ofString "base") 406, Value.str (Str.ofString "name") 407, Value.str (Str.ofString "func") 408] }),
  (160, { cls := Value.type "tuple", data := Data.seq #[] }),
  (162, { cls := Value.type "code", data := Data.fields #[Value.str (Str.ofString "names_of_methods") 398, Value.str (Str.ofString "names_of_methods") 399, Value.str (Str.ofString "/claim/cut.py") 400, Value.int 95 0, Value.int 2 0, Value.int 0 0, Value.int 0 0, Value.int 3 0, Value.ref 157, Value.bool true, Value.int 181 0, Value.ref 158, Value.none, Value.ref 159, Value.ref 160, Value.ref 161, Value.int 409 0, Value.int 95 0, Value.str (Str.ofString "/claim/cut.py") 410] }),
  (163, fnO (stAt 15) "names_of_methods" (Value.none) (.ref 162) "chancore.method_sets" 396),
  (164, { cls := Value.type "tuple", data := Data.seq #[] }),
  (166, { cls := Value.type "tuple", data := Data.seq #[Value.str (Str.ofString "world") 415, Value.str (Str.ofString "told") 416, Value.str (Str.ofString "name") 417] }),
  (167, { cls := Value.type "tuple", data := Data.seq #[] }),
  (169, { cls := Value.type "code", data := Data.fields #[Value.str (Str.ofString "member_or_none") 412, Value.str (Str.ofString "member_or_none") 413, Value.str (Str.ofString "/claim/cut.py") 414, Value.int 106 0, Value.int 3 0, Value.int 0 0, Value.int 0 0, Value.int 3 0, Value.ref 164, Value.bool true, Value.int 181 0, Value.ref 165, Value.none, Value.ref 166, Value.ref 167, Value.ref 168, Value.int 418 0, Value.int 106 0, Value.str (Str.ofString "/claim/cut.py") 419] }),
  (170, fnO (stAt 16) "member_or_none" (Value.none) (.ref 169) "chancore.method_sets" 396),
  (171, { cls := Value.type "tuple", data := Data.seq #[] }),
  (174, { cls := Value.type "code", data := Data.fields #[Value.str (Str.ofString "is_in_set") 421, Value.str (Str.ofString "is_in_set") 422, Value.str (Str.ofString "/claim/cut.py") 423, Value.int 111 0, Value.int 2 0, Value.int 0 0, Value.int 0 0, Value.int 3 0, Value.ref 171, Value.bool true, Value.int 181 0, Value.ref 172, Value.none, Value.none, Value.none, Value.ref 173, Value.int 424 0, Value.int 111 0, Value.str (Str.ofString "/claim/cut.py") 425] }),
  (175, fnO (stAt 17) "is_in_set" (Value.none) (.ref 174) "chancore.method_sets" 396),
  (176, { cls := Value.type "tuple", data := Data.seq #[] }),
  (178, { cls := Value.type "tuple", data := Data.seq #[Value.str (Str.ofString "world") 430, Value.str (Str.ofString "told") 431, Value.str (Str.ofString "begun") 432, Value.str (Str.ofString "found") 433, Value.str (Str.ofString "name") 434, Value.str (Str.ofString "member") 435, Value.str (Str.ofString "key") 436] }),
  (179, { cls := Value.type "tuple", data := Data.seq #[] }),
  (181, { cls := Value.type "code", data := Data.fields #[Value.str (Str.ofString "method_set") 427, Value.str (Str.ofString "method_set") 428, Value.str (Str.ofString "/claim/cut.py") 429, Value.int 115 0, Value.int 2 0, Value.int 0 0, Value.int 0 0, Value.int 3 0, Value.ref 176, Value.bool true, Value.int 181 0, Value.ref 177, Value.none, Value.ref 178, Value.ref 179, Value.ref 180, Value.int 437 0, Value.int 115 0, Value.str (Str.ofString "/claim/cut.py") 438] }),
  (182, fnO (stAt 18) "method_set" (Value.none) (.ref 181) "chancore.method_sets" 396),
  (183, { cls := Value.type "tuple", data := Data.seq #[] }),
  (186, { cls := Value.type "code", data := Data.fields #[Value.str (Str.ofString "want_few_parts") 446, Value.str (Str.ofString "want_few_parts") 447, Value.str (Str.ofString "/claim/cut.py") 448, Value.int 128 0, Value.int 2 0, Value.int 0 0, Value.int 0 0, Value.int 3 0, Value.ref 183, Value.bool true, Value.int 181 0, Value.ref 184, Value.none, Value.none, Value.none, Value.ref 185, Value.int 449 0, Value.int 128 0, Value.str (Str.ofString "/claim/cut.py") 450] }),
  (187, fnO (stAt 22) "want_few_parts" (Value.none) (.ref 186) "chancore.type_exprs" 440),
  (188, { cls := Value.type "tuple", data := Data.seq #[] }),
  (189, { cls := Value.type "tuple", data := Data.seq #[] }),
  (190, { cls := Value.type "tuple", data := Data.seq #[Value.str (Str.ofString "func") 454, Value.ref 188, Value.ref 189, Value.bool false] }),
  (198, { cls := Value.type "tuple", data := Data.seq #[] }),
  (200, { cls := Value.type "tuple", data := Data.seq #[Value.str (Str.ofString "self") 471, Value.str (Str.ofString "path") 472, Value.str (Str.ofString "package") 473, Value.str (Str.ofString "underlying") 474, Value.str (Str.ofString "methods") 475] }),
  (201, { cls := Value.type "tuple", data := Data.seq #[] }),
  (203, { cls := Value.type "code", data := Data.fields #[Value.str (Str.ofString "__init__") 468, Value.str (Str.ofString "NamedRow.__init__") 469, Value.str (Str.ofString "/claim/cut.py") 470, Value.int 141 0, Value.int 5 0, Value.int 0 0, Value.int 0 0, Value.int 3 0, Value.ref 198, Value.bool true, Value.int 181 0, Value.ref 199, Value.none, Value.ref 200, Value.ref 201, Value.ref 202, Value.int 476 0, Value.int 141 0, Value.str (Str.ofString "/claim/cut.py") 477] }),
  (204, fnO (inCls (stAt 25) 0) "NamedRow.__init__" (Value.none) (.ref 203) "chancore.world" 452),
  (205, { cls := Value.type "tuple", data := Data.seq #[Value.str (Str.ofString "methods") 479, Value.str (Str.ofString "package") 480, Value.str (Str.ofString "path") 481, Value.str (Str.ofString "underlying") 482] }),
  (206, { cls := Value.type "dict", data := Data.dict #[{ hash := PyData.keyHash P (Str.ofString "__module__"), key := Value.str (Str.ofString "__module__") 463, val := Value.str (Str.ofString "chancore.world") 452 }, { hash := PyData.keyHash P (Str.ofString "__firstlineno__"), key := Value.str (Str.ofString "__firstlineno__") 467, val := Value.int 139 466 }, { hash := PyData.keyHash P (Str.ofString "__init__"), key := Value.str (Str.ofString "__init__") 478, val := Value.ref 204 }, { hash := PyData.keyHash P (Str.ofString "__static_attributes__"), key := Value.str (Str.ofString "__static_attributes__") 483, val := Value.ref 205 }, { hash := PyData.keyHash P (Str.ofString "__dict__"), key := Value.str (Str.ofString "__dict__") 485, val := Value.ref 208 }, { hash := PyData.keyHash P (Str.ofString "__weakref__"), key := Value.str (Str.ofString "__weakref__") 487, val := Value.ref 209 }, { hash := PyData.keyHash P (Str.ofString "__doc__"), key := Value.str (Str.ofString "__doc__") 488, val := Value.none }] 4 }),
  (207, { cls := Value.type "type", data := Data.cls { name := Str.ofString "NamedRow", bases := [Value.type "object"], mro := [Value.ref 207, Value.type "object"], ns := 206, qualname := Str.ofString "NamedRow" }, slots := #[none, none, some (Value.str (Str.ofString "NamedRow") 456), some (Value.str (Str.ofString "NamedRow") 464), some (Value.builtin "object.__new__"), some (Value.bool true)] }),
  (208, { cls := Value.type "getset_descriptor", data := Data.fields #[Value.str (Str.ofString "__dict__") 484, Value.ref 207, Value.builtin "function.__dict__", Value.builtin "function.__dict__#set"] }),
  (209, { cls := Value.type "getset_descriptor", data := Data.fields #[Value.str (Str.ofString "__weakref__") 486, Value.ref 207, Value.builtin "ExceptionGroup.__weakref__", Value.none] }),
  (212, { cls := Value.type "tuple", data := Data.seq #[] }),
  (214, { cls := Value.type "tuple", data := Data.seq #[Value.str (Str.ofString "text") 494, Value.str (Str.ofString "adding") 495, Value.str (Str.ofString "gate") 496, Value.str (Str.ofString "group") 497, Value.str (Str.ofString "told") 498, Value.str (Str.ofString "locks") 499, Value.str (Str.ofString "waits") 500] }),
  (215, { cls := Value.type "tuple", data := Data.seq #[] }),
  (217, { cls := Value.type "code", data := Data.fields #[Value.str (Str.ofString "known_rows") 491, Value.str (Str.ofString "known_rows") 492, Value.str (Str.ofString "/claim/cut.py") 493, Value.int 146 0, Value.int 0 0, Value.int 0 0, Value.int 0 0, Value.int 3 0, Value.ref 212, Value.bool true, Value.int 181 0, Value.ref 213, Value.none, Value.ref 214, Value.ref 215, Value.ref 216, Value.int 501 0, Value.int 146 0, Value.str (Str.ofString "/claim/cut.py") 502] }),
  (218, fnO (stAt 26) "known_rows" (Value.none) (.ref 217) "chancore.world" 452),
  (226, { cls := Value.type "tuple", data := Data.seq #[Value.none] }),
  (227, { cls := Value.type "tuple", data := Data.seq #[] }),
  (229, { cls := Value.type "tuple", data := Data.seq #[Value.str (Str.ofString "self") 519, Value.str (Str.ofString "packages") 520] }),
  (230, { cls := Value.type "tuple", data := Data.seq #[] }),
  (232, { cls := Value.type "code", data := Data.fields #[Value.str (Str.ofString "__init__") 516, Value.str (Str.ofString "World.__init__") 517, Value.str (Str.ofString "/claim/cut.py") 518, Value.int 157 0, Value.int 2 0, Value.int 0 0, Value.int 0 0, Value.int 3 0, Value.ref 227, Value.bool true, Value.int 181 0, Value.ref 228, Value.none, Value.ref 229, Value.ref 230, Value.ref 231, Value.int 521 0, Value.int 157 0, Value.str (Str.ofString "/claim/cut.py") 522] }),
  (233, fnO (inCls (stAt 27) 0) "World.__init__" (Value.ref 226) (.ref 232) "chancore.world" 452),
  (234, { cls := Value.type "tuple", data := Data.seq #[] }),
  (236, { cls := Value.type "tuple", data := Data.seq #[Value.str (Str.ofString "self") 527, Value.str (Str.ofString "told") 528, Value.str (Str.ofString "row") 529] }),
  (237, { cls := Value.type "tuple", data := Data.seq #[] }),
  (239, { cls := Value.type "code", data := Data.fields #[Value.str (Str.ofString "base_of") 524, Value.str (Str.ofString "World.base_of") 525, Value.str (Str.ofString "/claim/cut.py") 526, Value.int 174 0, Value.int 2 0, Value.int 0 0, Value.int 0 0, Value.int 3 0, Value.ref 234, Value.bool true, Value.int 181 0, Value.ref 235, Value.none, Value.ref 236, Value.ref 237, Value.ref 238, Value.int 530 0, Value.int 174 0, Value.str (Str.ofString "/claim/cut.py") 531] }),
  (240, fnO (inCls (stAt 27) 1) "World.base_of" (Value.none) (.ref 239) "chancore.world" 452),
  (241, { cls := Value.type "tuple", data := Data.seq #[] }),
  (243, { cls := Value.type "tuple", data := Data.seq #[Value.str (Str.ofString "self") 536, Value.str (Str.ofString "entry") 537] }),
  (244, { cls := Value.type "tuple", data := Data.seq #[] }),
  (246, { cls := Value.type "code", data := Data.fields #[Value.str (Str.ofString "settled") 533, Value.str (Str.ofString "World.settled") 534, Value.str (Str.ofString "/claim/cut.py") 535, Value.int 186 0, Value.int 2 0, Value.int 0 0, Value.int 0 0, Value.int 3 0, Value.ref 241, Value.bool true, Value.int 181 0, Value.ref 242, Value.none, Value.ref 243, Value.ref 244, Value.ref 245, Value.int 538 0, Value.int 186 0, Value.str (Str.ofString "/claim/cut.py") 539] }),
  (247, fnO (inCls (stAt 27) 2) "World.settled" (Value.none) (.ref 246) "chancore.world" 452),
  (248, { cls := Value.type "tuple", data := Data.seq #[Value.str (Str.ofString "bodies") 541, Value.str (Str.ofString "consts") 542, Value.str (Str.ofString "files") 543, Value.str (Str.ofString "funcs") 544, Value.str (Str.ofString "globals") 545, Value.str (Str.ofString "is_whole") 546, Value.str (Str.ofString "late_keys") 547, Value.str (Str.ofString "late_parts") 548, Value.str (Str.ofString "late_sizes") 549, Value.str (Str.ofString "named") 550, Value.str (Str.ofString "order") 551, Value.str (Str.ofString "packages") 552, Value.str (Str.ofString "scopes") 553, Value.str (Str.ofString "settle") 554, Value.str (Str.ofString "starts") 555] }),
  (249, { cls := Value.type "dict", data := Data.dict #[{ hash := PyData.keyHash P (Str.ofString "__module__"), key := Value.str (Str.ofString "__module__") 511, val := Value.str (Str.ofString "chancore.world") 452 }, { hash := PyData.keyHash P (Str.ofString "__firstlineno__"), key := Value.str (Str.ofString "__firstlineno__") 515, val := Value.int 155 514 }, { hash := PyData.keyHash P (Str.ofString "__init__"), key := Value.str (Str.ofString "__init__") 523, val := Value.ref 233 }, { hash := PyData.keyHash P (Str.ofString "base_of"), key := Value.str (Str.ofString "base_of") 532, val := Value.ref 240 }, { hash := PyData.keyHash P (Str.ofString "settled"), key := Value.str (Str.ofString "settled") 540, val := Value.ref 247 }, { hash := PyData.keyHash P (Str.ofString "__static_attributes__"), key := Value.str (Str.ofString "__static_attributes__") 556, val := Value.ref 248 }, { hash := PyData.keyHash P (Str.ofString "__dict__"), key := Value.str (Str.ofString "__dict__") 558, val := Value.ref 251 }, { hash := PyData.keyHash P (Str.ofString "__weakref__"), key := Value.str (Str.ofString "__weakref__") 560, val := Value.ref 252 }, { hash := PyData.keyHash P (Str.ofString "__doc__"), key := Value.str (Str.ofString "__doc__") 561, val := Value.none }] 4 }),
  (250, { cls := Value.type "type", data := Data.cls { name := Str.ofString "World", bases := [Value.type "object"], mro := [Value.ref 250, Value.type "object"], ns := 249, qualname := Str.ofString "World" }, slots := #[none, none, some (Value.str (Str.ofString "World") 504), some (Value.str (Str.ofString "World") 512), some (Value.builtin "object.__new__"), some (Value.bool true)] }),
  (251, { cls := Value.type "getset_descriptor", data := Data.fields #[Value.str (Str.ofString "__dict__") 557, Value.ref 250, Value.builtin "function.__dict__", Value.builtin "function.__dict__#set"] }),
  (252, { cls := Value.type "getset_descriptor", data := Data.fields #[Value.str (Str.ofString "__weakref__") 559, Value.ref 250, Value.builtin "ExceptionGroup.__weakref__", Value.none] }),
  (255, { cls := Value.type "tuple", data := Data.seq #[] }),
  (257, { cls := Value.type "tuple", data := Data.seq #[Value.str (Str.ofString "script") 569, Value.str (Str.ofString "k") 570, Value.str (Str.ofString "cell") 571, Value.str (Str.ofString "big") 572, Value.str (Str.ofString "mixed") 573] }),
  (258, { cls := Value.type "tuple", data := Data.seq #[] }),
  (260, { cls := Value.type "code", data := Data.fields #[Value.str (Str.ofString "_law_pool") 566, Value.str (Str.ofString "_law_pool") 567, Value.str (Str.ofString "/claim/cut.py") 568, Value.int 189 0, Value.int 2 0, Value.int 0 0, Value.int 0 0, Value.int 3 0, Value.ref 255, Value.bool true, Value.int 181 0, Value.ref 256, Value.none, Value.ref 257, Value.ref 258, Value.ref 259, Value.int 574 0, Value.int 189 0, Value.str (Str.ofString "/claim/cut.py") 575] }),
  (261, fnO (stAt 29) "_law_pool" (Value.none) (.ref 260) "law_pq0226_01" 564),
  (262, { cls := Value.type "tuple", data := Data.seq #[] }),
  (264, { cls := Value.type "tuple", data := Data.seq #[Value.str (Str.ofString "source") 580, Value.str (Str.ofString "top") 581, Value.str (Str.ofString "drawn") 582] }),
  (265, { cls := Value.type "tuple", data := Data.seq #[] }),
  (267, { cls := Value.type "code", data := Data.fields #[Value.str (Str.ofString "_law_take") 577, Value.str (Str.ofString "_law_take") 578, Value.str (Str.ofString "/claim/cut.py") 579, Value.int 194 0, Value.int 2 0, Value.int 0 0, Value.int 0 0, Value.int 3 0, Value.ref 262, Value.bool true, Value.int 181 0, Value.ref 263, Value.none, Value.ref 264, Value.ref 265, Value.ref 266, Value.int 583 0, Value.int 194 0, Value.str (Str.ofString "/claim/cut.py") 584] }),
  (268, fnO (stAt 30) "_law_take" (Value.none) (.ref 267) "law_pq0226_01" 564),
  (269, { cls := Value.type "tuple", data := Data.seq #[] }),
  (271, { cls := Value.type "tuple", data := Data.seq #[Value.str (Str.ofString "source") 589, Value.str (Str.ofString "things") 590] }),
  (272, { cls := Value.type "tuple", data := Data.seq #[] }),
  (274, { cls := Value.type "code", data := Data.fields #[Value.str (Str.ofString "_law_one") 586, Value.str (Str.ofString "_law_one") 587, Value.str (Str.ofString "/claim/cut.py") 588, Value.int 201 0, Value.int 2 0, Value.int 0 0, Value.int 0 0, Value.int 3 0, Value.ref 269, Value.bool true, Value.int 181 0, Value.ref 270, Value.none, Value.ref 271, Value.ref 272, Value.ref 273, Value.int 591 0, Value.int 201 0, Value.str (Str.ofString "/claim/cut.py") 592] }),
  (275, fnO (stAt 31) "_law_one" (Value.none) (.ref 274) "law_pq0226_01" 564),
  (276, { cls := Value.type "tuple", data := Data.seq #[] }),
  (277, { cls := Value.type "tuple", data := Data.seq #[Value.str (Str.ofString "bool") 595] }),
  (278, { cls := Value.type "tuple", data := Data.seq #[Value.ref 277] }),
  (279, { cls := Value.type "tuple", data := Data.seq #[Value.str (Str.ofString "func") 594, Value.ref 276, Value.ref 278, Value.bool false] }),
  (280, { cls := Value.type "tuple", data := Data.seq #[] }),
  (283, { cls := Value.type "code", data := Data.fields #[Value.str (Str.ofString "_law_drawn") 597, Value.str (Str.ofString "_law_drawn") 598, Value.str (Str.ofString "/claim/cut.py") 599, Value.int 204 0, Value.int 1 0, Value.int 0 0, Value.int 0 0, Value.int 3 0, Value.ref 280, Value.bool true, Value.int 181 0, Value.ref 281, Value.none, Value.none, Value.none, Value.ref 282, Value.int 600 0, Value.int 204 0, Value.str (Str.ofString "/claim/cut.py") 601] }),
  (284, fnO (stAt 33) "_law_drawn" (Value.none) (.ref 283) "law_pq0226_01" 564),
  (285, { cls := Value.type "tuple", data := Data.seq #[] }),
  (287, { cls := Value.type "tuple", data := Data.seq #[Value.str (Str.ofString "layers") 606, Value.str (Str.ofString "world") 607, Value.str (Str.ofString "row") 608, Value.str (Str.ofString "path") 609, Value.str (Str.ofString "fields") 610, Value.str (Str.ofString "methods") 611] }),
  (288, { cls := Value.type "tuple", data := Data.seq #[] }),
  (290, { cls := Value.type "code", data := Data.fields #[Value.str (Str.ofString "_law_world") 603, Value.str (Str.ofString "_law_world") 604, Value.str (Str.ofString "/claim/cut.py") 605, Value.int 221 0, Value.int 1 0, Value.int 0 0, Value.int 0 0, Value.int 3 0, Value.ref 285, Value.bool true, Value.int 181 0, Value.ref 286, Value.none, Value.ref 287, Value.ref 288, Value.ref 289, Value.int 612 0, Value.int 221 0, Value.str (Str.ofString "/claim/cut.py") 613] }),
  (291, fnO (stAt 34) "_law_world" (Value.none) (.ref 290) "law_pq0226_01" 564),
  (292, { cls := Value.type "tuple", data := Data.seq #[] }),
  (295, { cls := Value.type "code", data := Data.fields #[Value.str (Str.ofString "_law_found") 615, Value.str (Str.ofString "_law_found") 616, Value.str (Str.ofString "/claim/cut.py") 617, Value.int 227 0, Value.int 2 0, Value.int 0 0, Value.int 0 0, Value.int 3 0, Value.ref 292, Value.bool true, Value.int 181 0, Value.ref 293, Value.none, Value.none, Value.none, Value.ref 294, Value.int 618 0, Value.int 227 0, Value.str (Str.ofString "/claim/cut.py") 619] }),
  (296, fnO (stAt 35) "_law_found" (Value.none) (.ref 295) "law_pq0226_01" 564),
  (297, { cls := Value.type "tuple", data := Data.seq #[] }),
  (299, { cls := Value.type "tuple", data := Data.seq #[Value.str (Str.ofString "world") 624, Value.str (Str.ofString "T") 625, Value.str (Str.ofString "name") 626] }),
  (300, { cls := Value.type "tuple", data := Data.seq #[] }),
  (302, { cls := Value.type "code", data := Data.fields #[Value.str (Str.ofString "_law_told") 621, Value.str (Str.ofString "_law_told") 622, Value.str (Str.ofString "/claim/cut.py") 623, Value.int 246 0, Value.int 3 0, Value.int 0 0, Value.int 0 0, Value.int 3 0, Value.ref 297, Value.bool true, Value.int 181 0, Value.ref 298, Value.none, Value.ref 299, Value.ref 300, Value.ref 301, Value.int 627 0, Value.int 246 0, Value.str (Str.ofString "/claim/cut.py") 628] }),
  (303, fnO (stAt 36) "_law_told" (Value.none) (.ref 302) "law_pq0226_01" 564),
  (304, { cls := Value.type "tuple", data := Data.seq #[] }),
  (307, { cls := Value.type "code", data := Data.fields #[Value.str (Str.ofString "_law_layers_right") 630, Value.str (Str.ofString "_law_layers_right") 631, Value.str (Str.ofString "/claim/cut.py") 632, Value.int 251 0, Value.int 1 0, Value.int 0 0, Value.int 0 0, Value.int 3 0, Value.ref 304, Value.bool true, Value.int 181 0, Value.ref 305, Value.none, Value.none, Value.none, Value.ref 306, Value.int 633 0, Value.int 251 0, Value.str (Str.ofString "/claim/cut.py") 634] }),
  (308, fnO (stAt 37) "_law_layers_right" (Value.none) (.ref 307) "law_pq0226_01" 564),
  (309, { cls := Value.type "tuple", data := Data.seq #[] }),
  (312, { cls := Value.type "code", data := Data.fields #[Value.str (Str.ofString "_law_deep_right") 636, Value.str (Str.ofString "_law_deep_right") 637, Value.str (Str.ofString "/claim/cut.py") 638, Value.int 265 0, Value.int 0 0, Value.int 0 0, Value.int 0 0, Value.int 3 0, Value.ref 309, Value.bool true, Value.int 181 0, Value.ref 310, Value.none, Value.none, Value.none, Value.ref 311, Value.int 639 0, Value.int 265 0, Value.str (Str.ofString "/claim/cut.py") 640] }),
  (313, fnO (stAt 38) "_law_deep_right" (Value.none) (.ref 312) "law_pq0226_01" 564),
  (314, { cls := Value.type "tuple", data := Data.seq #[] }),
  (316, { cls := Value.type "tuple", data := Data.seq #[Value.str (Str.ofString "told") 645, Value.str (Str.ofString "fault") 646] }),
  (317, { cls := Value.type "tuple", data := Data.seq #[] }),
  (319, { cls := Value.type "code", data := Data.fields #[Value.str (Str.ofString "_law_told_few") 642, Value.str (Str.ofString "_law_told_few") 643, Value.str (Str.ofString "/claim/cut.py") 644, Value.int 278 0, Value.int 1 0, Value.int 0 0, Value.int 0 0, Value.int 3 0, Value.ref 314, Value.bool true, Value.int 181 0, Value.ref 315, Value.none, Value.ref 316, Value.ref 317, Value.ref 318, Value.int 647 0, Value.int 278 0, Value.str (Str.ofString "/claim/cut.py") 648] }),
  (320, fnO (stAt 39) "_law_told_few" (Value.none) (.ref 319) "law_pq0226_01" 564),
  (321, { cls := Value.type "tuple", data := Data.seq #[] }),
  (324, { cls := Value.type "code", data := Data.fields #[Value.str (Str.ofString "_law_parts_right") 650, Value.str (Str.ofString "_law_parts_right") 651, Value.str (Str.ofString "/claim/cut.py") 652, Value.int 284 0, Value.int 0 0, Value.int 0 0, Value.int 0 0, Value.int 3 0, Value.ref 321, Value.bool true, Value.int 181 0, Value.ref 322, Value.none, Value.none, Value.none, Value.ref 323, Value.int 653 0, Value.int 284 0, Value.str (Str.ofString "/claim/cut.py") 654] }),
  (325, fnO (stAt 40) "_law_parts_right" (Value.none) (.ref 324) "law_pq0226_01" 564),
  (326, { cls := Value.type "tuple", data := Data.seq #[] }),
  (328, { cls := Value.type "tuple", data := Data.seq #[Value.str (Str.ofString "script") 659, Value.str (Str.ofString "leaf") 660, Value.str (Str.ofString "both") 661, Value.str (Str.ofString "world") 662, Value.str (Str.ofString "path") 663] }),
  (329, { cls := Value.type "tuple", data := Data.seq #[] }),
  (331, { cls := Value.type "code", data := Data.fields #[Value.str (Str.ofString "law") 656, Value.str (Str.ofString "law") 657, Value.str (Str.ofString "/claim/cut.py") 658, Value.int 287 0, Value.int 1 0, Value.int 0 0, Value.int 0 0, Value.int 3 0, Value.ref 326, Value.bool true, Value.int 181 0, Value.ref 327, Value.none, Value.ref 328, Value.ref 329, Value.ref 330, Value.int 664 0, Value.int 287 0, Value.str (Str.ofString "/claim/cut.py") 665] }),
  (332, fnO (stAt 41) "law" (Value.none) (.ref 331) "law_pq0226_01" 564)]
end Mine
end
section
open PySem PySem.W PySem.Calls PyProof.Rows PySem.Builtin PySem.Builtin.ObjectAttr
set_option maxRecDepth 100000
namespace Mine
section
variable {K : Frag} {prog : Program} {w : PySem.World} {A : Around} {s : Shared} {C x : Addr} {R : Result → Shared → Prop}
/-- the classes of the text, then Exception and what is above -/
noncomputable def isRef : Value → Bool
  | .ref _ => true
  | _ => false
noncomputable def excMro (l : List Value) : Bool := decide (l.dropWhile isRef = [.type "Exception", .type "BaseException", .type "object"])
theorem excMro_ind {P : List Value → Prop} (base : P [.type "Exception", .type "BaseException", .type "object"]) (step : ∀ c l, P l → P (.ref c :: l)) : ∀ {l : List Value}, excMro l = true → P l := by
  intro l
  induction l with
  | nil => intro e; cases of_decide_eq_true e
  | cons a r ih =>
    intro e
    cases h : isRef a with
    | true =>
      have e' : excMro r = true := by unfold excMro at e ⊢; rwa [List.dropWhile_cons_of_pos h] at e
      obtain ⟨c, rfl⟩ : ∃ c, a = .ref c := by match a, h with | .ref c, _ => exact ⟨c, rfl⟩
      exact step c r (ih e')
    | false =>
      have e := of_decide_eq_true e
      rw [List.dropWhile_cons_of_neg (by rw [h]; exact Bool.false_ne_true)] at e
      rw [e]; exact base
theorem excMro_pass (self : Value) {l : List Value} (e : excMro l = true) : refuseLoop self "__setattr__" l = pure () :=
  excMro_ind (P := fun l => refuseLoop self "__setattr__" l = pure ()) (PySem.F.store_Exception.passes self) (fun c l h => by rw [refuseLoop_ref]; exact h) e
theorem excMro_has {l : List Value} (e : excMro l = true) : l.contains (.type "object") = true :=
  excMro_ind (P := fun l => l.contains (.type "object") = true) (by decide) (fun c l h => by rw [List.contains_cons, h, Bool.or_true]) e
theorem osa_openX {ox : Obj} {od : Option Obj} {name : Str} {tk : Tok} {v : Value} (X : K.In s.heap) (I : InstAt s.heap x ox C od) (hp : (clsIn K C).any (fun cd => excMro cd.mro) = true) (ht : takerIn K C name = some none)
    (h : ∀ b, wpAny (model prog w) A.in1 (storeInOwnDict (.ref x) (.ref C) (.str name tk) name v b)
      (fun fin s' => match fin with | .done f => R (.ok f) s' | .again c' => c'.quiet = true ∧ codeAny (model prog w) A c' R s') (fun e s' => R (.error e) s') s) :
    codeAny (model prog w) A (.call (.builtin "object.__setattr__") ⟨[.ref x, .str name tk, v], []⟩) R s := by
  have SF := PySem.F.store_object
  obtain ⟨cd, hc, ho⟩ := any_some hp
  have ne : cd.mro.isEmpty = false := by cases q : cd.mro with | nil => rw [q] at ho; cases ho | cons _ _ => rfl
  have sub : Looks (model prog w) s.heap (isInstance (.ref x) (.type "object")) true := I.type.andThen (looks_mroIn X (by unfold mroIn; rw [hc, Option.bind_some, if_neg (by rw [ne]; decide), excMro_has ho]))
  refine codeAny_call_builtin SF.slot.plain SF.entry (@check_slot (model prog w) _ _ s "object.__setattr__" "object" "__setattr__" (.ref x) [.str name tk, v] [] _ SF.kind SF.split sub (SF.args (.ref x) (.str name tk) v) ?_)
  obtain ⟨attr, ha, hr⟩ := Option.bind_eq_some_iff.mp ht
  have hm : Looks (model prog w) s.heap (mroOf (.ref C)) cd.mro := (looks_clsIn X hc).andThen .now
  have L3 : Looks (model prog w) s.heap (storeTaker? attr) none := by
    cases attr with
    | none => exact .now
    | some a =>
      obtain ⟨b, hb, hbe⟩ := Option.map_eq_some_iff.mp hr
      refine (looks_takesIn X hb).andThen ?_
      cases b
      · exact .now
      · cases hbe
  rw [osa_eq, refuse_eq]
  refine PySem.wpAny_bind (PySem.wpAny_bind (I.type.here (PySem.wpAny_bind (hm.here ?_))))
  rw [excMro_pass _ ho]
  refine wpAny_pure (PySem.wpAny_bind (I.type.here (PySem.wpAny_bind ((looks_findIn X ha).here (PySem.wpAny_bind (L3.here ?_))))))
  exact h _
/-- x has no dict yet: it gets one, with this name alone -/
theorem storeX_none {E : Value → Shared → Prop} {ox : Obj} {cd : ClassData} {vs : Array Value} {name : Str} {v : Value} {Q : Unit → Shared → Prop} (X : K.In s.heap) (hx : s.heap.get? x = some ox) (hcl : ox.cls = .ref C) (hdt : ox.data = .fields vs) (hdn : ox.dict = none)
    (hc : clsIn K C = some cd) (hp : excMro cd.mro = true) (hdict : cd.hasDict = true) (ht : takerIn K C name = some none) (hs : findIn K (.ref C) "__setattr__" = some (some (.builtin "object.__setattr__")))
    (q : ∀ d h' tk, s.heap.get? d = none → h'.get? x = some { ox with dict := some d } → h'.Ns1 d (fun y => if y = name then some v else none) → (∀ b o, b ≠ x → s.heap.get? b = some o → h'.get? b = some o) → Q () { s with heap := h', toks := tk }) :
    wpAny (model prog w) A (setAttr (.ref x) name v) Q E s := by
  have I : InstAt s.heap x ox C none := ⟨hx, hcl, by unfold notCls; rw [hdt], by rw [hdn]; trivial⟩
  refine set_plain X I hs ?_
  obtain ⟨hh, g, d, t, os⟩ := s
  refine osa_openX (s := ⟨hh, g, d, t + 1, os⟩) X I (by rw [hc]; exact hp) ht fun b => ?_
  have hdc := looks_clsIn (M := model prog w) X hc
  obtain ⟨oc, odd, odt, osl⟩ := ox
  dsimp only at hcl hdt hdn
  subst hcl hdt hdn
  refine PySem.wpAny_bind (wpAny_pure (PySem.wpAny_bind (PySem.wpAny_bind (wpAny_loadPart (s := ⟨hh, g, d, t + 1, os⟩) hx (PySem.wpAny_bind (hdc _ _ _ _ (fun _ _ e => e) ?_))))))
  rw [hdict]
  have hxs : x ≠ hh.objs.size := Nat.ne_of_lt (Heap.lt_size hx)
  have hx₁ : (hh.push { cls := .type "dict", data := .dict #[] }).get? x = some { cls := .ref C, data := .fields vs, slots := osl } := Heap.get?_push_of_some _ hx
  refine PySem.wpAny_bind (wpAny_alloc' ?_)
  refine PySem.wpAny_bind (wpAny_update' hx₁ ?_)
  refine wpAny_pure ?_
  have hgd : ((hh.push { cls := .type "dict", data := .dict #[] }).update x fun o => { cls := o.cls, dict := some hh.objs.size, data := o.data, slots := o.slots }).get? hh.objs.size = some { cls := .type "dict", data := .dict #[] } :=
    (Heap.get?_update_ne _ _ _ _ hxs.symm).trans (Heap.get?_push_at rfl rfl)
  have hnd : ((hh.push { cls := .type "dict", data := .dict #[] }).update x fun o => { cls := o.cls, dict := some hh.objs.size, data := o.data, slots := o.slots }).Ns hh.objs.size (fun _ => none) :=
    ⟨_, #[], _, hgd, rfl, fun e he => absurd he (by simp), fun _ => rfl⟩
  show wpAny _ _ (storeInDict hh.objs.size (.str name t) name v) _ _ _
  unfold storeInDict newKeyGuard
  refine PySem.wpAny_bind (wpAny_pure (PySem.wpAny_bind (wpAny_nsSet1 (Heap.Ns1.of_empty hnd) fun h' hn' hs' => ?_)))
  obtain ⟨oD, esD, epD, hoD, hdD, hcD⟩ := hn'.count (Within.cons name v Within.nil)
  refine PySem.wpAny_bind (wpAny_lookBehind hoD (by rw [hdD]; exact pastItsLine_dict (Nat.le_trans hcD (by rw [List.length_cons, List.length_nil, sizeLine_eq]; lia))) ?_)
  wp_walk
  have hx' : h'.get? x = some { cls := .ref C, dict := some hh.objs.size, data := .fields vs, slots := osl } := (hs'.2 x hxs).trans (Heap.get?_update_self _ hx₁ rfl)
  exact q hh.objs.size h' _ (Heap.get?_none_of_le (Nat.le_refl _)) hx' hn' fun b o n e => (hs'.2 b (Nat.ne_of_lt (Heap.lt_size e))).trans ((Heap.get?_update_ne _ _ _ _ n).trans (Heap.get?_push_of_some _ e))
/-- x has a dict: the name is put in -/
theorem storeX_some {E : Value → Shared → Prop} {ox : Obj} {cd : ClassData} {vs : Array Value} {name : Str} {v : Value} {dx : Addr} {ms : Str → Option Value} {ns : List Str} {Q : Unit → Shared → Prop} (X : K.In s.heap) (hx : s.heap.get? x = some ox) (hcl : ox.cls = .ref C) (hdt : ox.data = .fields vs) (hdn : ox.dict = some dx)
    (hn : s.heap.Ns1 dx ms) (hw : Within ms ns) (hsz : ns.length ≤ 1000)
    (hc : clsIn K C = some cd) (hp : excMro cd.mro = true) (hdict : cd.hasDict = true) (ht : takerIn K C name = some none) (hs : findIn K (.ref C) "__setattr__" = some (some (.builtin "object.__setattr__")))
    (q : ∀ h' tk, h'.Ns1 dx (fun y => if y = name then some v else ms y) → (∀ b o, b ≠ dx → s.heap.get? b = some o → h'.get? b = some o) → Q () { s with heap := h', toks := tk }) :
    wpAny (model prog w) A (setAttr (.ref x) name v) Q E s := by
  obtain ⟨od, es, ep, hod, _⟩ := id hn
  have I : InstAt s.heap x ox C (some od) := ⟨hx, hcl, by unfold notCls; rw [hdt], by rw [hdn]; exact hod⟩
  refine set_plain X I hs ?_
  obtain ⟨hh, g, d, t, os⟩ := s
  refine osa_openX (s := ⟨hh, g, d, t + 1, os⟩) X I (by rw [hc]; exact hp) ht fun b => ?_
  have hdc := looks_clsIn (M := model prog w) X hc
  obtain ⟨oc, odd, odt, osl⟩ := ox
  dsimp only at hcl hdt hdn
  subst hcl hdt hdn
  refine PySem.wpAny_bind (wpAny_pure (PySem.wpAny_bind (PySem.wpAny_bind (wpAny_loadPart (s := ⟨hh, g, d, t + 1, os⟩) hx (PySem.wpAny_bind (hdc _ _ _ _ (fun _ _ e => e) ?_))))))
  rw [hdict]
  refine wpAny_pure ?_
  show wpAny _ _ (storeInDict dx (.str name t) name v) _ _ _
  unfold storeInDict newKeyGuard
  refine PySem.wpAny_bind (wpAny_pure (PySem.wpAny_bind (wpAny_nsSet1 hn fun h' hn' hs' => ?_)))
  obtain ⟨oD, esD, epD, hoD, hdD, hcD⟩ := hn'.count (Within.cons name v hw)
  refine PySem.wpAny_bind (wpAny_lookBehind hoD (by rw [hdD]; exact pastItsLine_dict (Nat.le_trans hcD (by rw [List.length_cons, sizeLine_eq]; lia))) ?_)
  wp_walk
  exact q h' _ hn' fun b o n e => (hs'.2 b n).trans e
end
section
variable {K : Frag} {prog : Program} {w : PySem.World} {A : Around} {C e : Addr} {R : Result → Shared → Prop} {hh : Heap} {g : Array GenState} {d : Drawn} {t : Nat} {os : OsState}
theorem exc_check_init {M : Model} {oe : Obj} {rest : List Value} {E : Value → Shared → Prop} {Q : Unit → Shared → Prop} (X : K.In hh) (he : hh.get? e = some oe) (hcl : oe.cls = .ref C) (hm : mroIn K C (.type "Exception") = some true) (hq : Q () ⟨hh, g, d, t, os⟩) :
    wpAny M A (checkBuiltinCall "Exception.__init__" ⟨.ref e :: rest, []⟩) Q E ⟨hh, g, d, t, os⟩ := by
  have F := PySem.F.excBase_Exception
  have hshort := F.noStar
  have L := looks_mroIn (M := M) X hm
  obtain ⟨o1, o2, o3, cd, hC⟩ : ∃ o1 o2 o3 cd, hh.get? C = some ⟨o1, o2, .cls cd, o3⟩ := by
    obtain ⟨cd, a, b⟩ := Option.bind_eq_some_iff.mp hm
    rcases ho : K.lookup C with _ | ⟨o1, o2, d, o3⟩
    · rw [show clsIn K C = none from by rw [clsIn, ho]] at a; cases a
    · cases d with
      | cls cd' => exact ⟨_, _, _, _, X _ _ ho⟩
      | _ => rw [show clsIn K C = none from by rw [clsIn, ho]] at a; cases a
  simp only [checkBuiltinCall, F.initKind, F.initSplit, F.initRow]
  repeat (first | (with_reducible refine wpAny_loadPart_at he ?_; rw [hcl]) | (refine Looks.here (s := ⟨hh, g, d, t, os⟩) L ?_) | (with_reducible refine wpAny_load' hC ?_) | wp_step)
  refine wpAny_onRaise ?_
  rw [show ∀ (a b : String) (n : Nat), Bind.check ⟨.positional, "*", "Exception", .self, [⟨"args", .varPos, false⟩]⟩ a b n (List.map (fun x => x.fst) ({ pos := Value.ref e :: rest } : Args).kw) = pure () from
    fun a b n => check_star_args _ _ _ _ _ _]
  exact wpAny_pure hq
theorem exc_init {od : Option Addr} {t0 : Addr} {v : Value} {E : Value → Shared → Prop} {Q : Value → Shared → Prop} (X : K.In hh) (he : hh.get? e = some { cls := .ref C, dict := od, data := .fields #[.ref t0, .none, .none, .none, .bool false, .none] }) (hm : mroIn K C (.type "Exception") = some true)
    (hq : ∀ h' t1, h'.get? e = some { cls := .ref C, dict := od, data := .fields #[.ref t1, .none, .none, .none, .bool false, .none] } → (∀ b o, b ≠ e → hh.get? b = some o → h'.get? b = some o) → Q .none ⟨h', g, d, t, os⟩) :
    wpAny (model prog w) A (call (.builtin "Exception.__init__") [.ref e, v]) Q E ⟨hh, g, d, t, os⟩ := by
  have F := PySem.F.excBase_Exception
  refine wpAny_call (codeAny_call_builtin F.init.plain F.initEntry (exc_check_init X he rfl hm ?_))
  have hget : (hh.push { cls := .type "tuple", data := .seq #[v] }).get? e = some { cls := .ref C, dict := od, data := .fields #[.ref t0, .none, .none, .none, .bool false, .none] } := Heap.get?_push_of_some _ he
  wp_walk
  refine hq _ hh.objs.size ?_ fun b o n x => ?_
  · rw [Heap.get?_update_self _ hget rfl]; rfl
  · rw [Heap.get?_update_other _ _ n.symm]; exact Heap.get?_push_of_some _ x
end
end Mine
end
section
open PySem PySem.W PySem.Calls PyProof.Rows
namespace Mine
theorem hide {P : Prop} (w : ∀ P' : Prop, (P → P') → P') : P := w P fun h => h
inductive A3 (p1 p2 p3 : Prop) : Prop
  | mk (_ : p1) (_ : p2) (_ : p3) : A3 p1 p2 p3
inductive A4 (p1 p2 p3 p4 : Prop) : Prop
  | mk (_ : p1) (_ : p2) (_ : p3) (_ : p4) : A4 p1 p2 p3 p4
inductive A5 (p1 p2 p3 p4 p5 : Prop) : Prop
  | mk (_ : p1) (_ : p2) (_ : p3) (_ : p4) (_ : p5) : A5 p1 p2 p3 p4 p5
inductive A6 (p1 p2 p3 p4 p5 p6 : Prop) : Prop
  | mk (_ : p1) (_ : p2) (_ : p3) (_ : p4) (_ : p5) (_ : p6) : A6 p1 p2 p3 p4 p5 p6
inductive A7 (p1 p2 p3 p4 p5 p6 p7 : Prop) : Prop
  | mk (_ : p1) (_ : p2) (_ : p3) (_ : p4) (_ : p5) (_ : p6) (_ : p7) : A7 p1 p2 p3 p4 p5 p6 p7
inductive A8 (p1 p2 p3 p4 p5 p6 p7 p8 : Prop) : Prop
  | mk (_ : p1) (_ : p2) (_ : p3) (_ : p4) (_ : p5) (_ : p6) (_ : p7) (_ : p8) : A8 p1 p2 p3 p4 p5 p6 p7 p8
inductive A9 (p1 p2 p3 p4 p5 p6 p7 p8 p9 : Prop) : Prop
  | mk (_ : p1) (_ : p2) (_ : p3) (_ : p4) (_ : p5) (_ : p6) (_ : p7) (_ : p8) (_ : p9) : A9 p1 p2 p3 p4 p5 p6 p7 p8 p9
inductive A10 (p1 p2 p3 p4 p5 p6 p7 p8 p9 p10 : Prop) : Prop
  | mk (_ : p1) (_ : p2) (_ : p3) (_ : p4) (_ : p5) (_ : p6) (_ : p7) (_ : p8) (_ : p9) (_ : p10) : A10 p1 p2 p3 p4 p5 p6 p7 p8 p9 p10
inductive A11 (p1 p2 p3 p4 p5 p6 p7 p8 p9 p10 p11 : Prop) : Prop
  | mk (_ : p1) (_ : p2) (_ : p3) (_ : p4) (_ : p5) (_ : p6) (_ : p7) (_ : p8) (_ : p9) (_ : p10) (_ : p11) : A11 p1 p2 p3 p4 p5 p6 p7 p8 p9 p10 p11
inductive A12 (p1 p2 p3 p4 p5 p6 p7 p8 p9 p10 p11 p12 : Prop) : Prop
  | mk (_ : p1) (_ : p2) (_ : p3) (_ : p4) (_ : p5) (_ : p6) (_ : p7) (_ : p8) (_ : p9) (_ : p10) (_ : p11) (_ : p12) : A12 p1 p2 p3 p4 p5 p6 p7 p8 p9 p10 p11 p12
inductive A13 (p1 p2 p3 p4 p5 p6 p7 p8 p9 p10 p11 p12 p13 : Prop) : Prop
  | mk (_ : p1) (_ : p2) (_ : p3) (_ : p4) (_ : p5) (_ : p6) (_ : p7) (_ : p8) (_ : p9) (_ : p10) (_ : p11) (_ : p12) (_ : p13) : A13 p1 p2 p3 p4 p5 p6 p7 p8 p9 p10 p11 p12 p13
/-- a value as the plain law sees it: atoms, ints, texts, tuples -/
inductive AV where
  | at (v : Value)
  | int (i : Int)
  | str (s : Str)
  | tup (l : List AV)
noncomputable abbrev AV.none : AV := .at .none
noncomputable abbrev AV.bool (b : Bool) : AV := .at (.bool b)
noncomputable abbrev AV.ref (a : Addr) : AV := .at (.ref a)

mutual
noncomputable def VR (h : Heap) : AV → Value → Prop
  | .at u, v => v = u
  | .int i, v => ∃ t, v = .int i t
  | .str x, v => ∃ t, v = .str x t
  | .tup l, v => ∃ a vs, v = .ref a ∧ IsTup h a vs.toArray ∧ VRs h l vs
noncomputable def VRs (h : Heap) : List AV → List Value → Prop
  | [], vs => vs = []
  | a :: l, vs => ∃ v r, vs = v :: r ∧ VR h a v ∧ VRs h l r
end

noncomputable def TupExt (h h' : Heap) : Prop := ∀ a items, IsTup h a items → IsTup h' a items
noncomputable def Keeps (h h' : Heap) : Prop := ∀ b o, h.get? b = some o → h'.get? b = some o
theorem TupExt.refl (h : Heap) : TupExt h h := fun _ _ x => x
theorem TupExt.trans {h h' h'' : Heap} (x : TupExt h h') (y : TupExt h' h'') : TupExt h h'' := fun a i z => y a i (x a i z)
theorem Keeps.trans {h h' h'' : Heap} (x : Keeps h h') (y : Keeps h' h'') : Keeps h h'' := fun a i z => y a i (x a i z)
theorem Keeps.tup {h h' : Heap} (k : Keeps h h') : TupExt h h' := fun _ _ x => IsTup.keeps x k
theorem Keeps.push (h : Heap) (o : Obj) : Keeps h (h.push o) := fun _ _ e => Heap.get?_push_of_some o e

mutual
theorem VR.mono {h h' : Heap} (x : TupExt h h') : ∀ {a : AV} {v : Value}, VR h a v → VR h' a v
  | .at _, _, r => by simpa [VR] using r
  | .int _, _, r => by simpa [VR] using r
  | .str _, _, r => by simpa [VR] using r
  | .tup _, _, r => by
    simp only [VR] at r ⊢
    obtain ⟨a, vs, e, t, q⟩ := r
    exact ⟨a, vs, e, x _ _ t, VRs.mono x q⟩
theorem VRs.mono {h h' : Heap} (x : TupExt h h') : ∀ {l : List AV} {vs : List Value}, VRs h l vs → VRs h' l vs
  | [], _, r => by simpa [VRs] using r
  | _ :: _, _, r => by
    simp only [VRs] at r ⊢
    obtain ⟨v, r', e, q, q'⟩ := r
    exact ⟨v, r', e, VR.mono x q, VRs.mono x q'⟩
end

theorem VRs.length {h : Heap} : ∀ {l : List AV} {vs : List Value}, VRs h l vs → vs.length = l.length
  | [], _, r => by simp only [VRs] at r; rw [r]; rfl
  | _ :: _, _, r => by
    simp only [VRs] at r
    obtain ⟨v, r', e, _, q'⟩ := r
    rw [e, List.length_cons, List.length_cons, VRs.length q']
theorem VRs.get {h : Heap} : ∀ {l : List AV} {vs : List Value} {i : Nat} {a : AV}, VRs h l vs → l[i]? = some a → ∃ v, vs[i]? = some v ∧ VR h a v
  | [], _, _, _, _, e => by simp at e
  | b :: l, _, i, a, r, e => by
    simp only [VRs] at r
    obtain ⟨v, r', rfl, q, q'⟩ := r
    cases i with
    | zero => simp at e; exact ⟨v, rfl, e ▸ q⟩
    | succ i => simp at e; exact VRs.get (i := i) q' e
theorem VRs.append {h : Heap} : ∀ {l l' : List AV} {vs vs' : List Value}, VRs h l vs → VRs h l' vs' → VRs h (l ++ l') (vs ++ vs')
  | [], _, _, _, r, r' => by simp only [VRs] at r; subst r; exact r'
  | _ :: _, _, _, _, r, r' => by
    simp only [VRs] at r
    obtain ⟨v, q, rfl, a, b⟩ := r
    simp only [List.cons_append, VRs]
    exact ⟨v, _, rfl, a, b.append r'⟩

inductive All2 {α β : Type} (R : α → β → Prop) : List α → List β → Prop
  | nil : All2 R [] []
  | cons {a b l r} : R a b → All2 R l r → All2 R (a :: l) (b :: r)
theorem All2.mono {α β : Type} {R R' : α → β → Prop} (m : ∀ a b, R a b → R' a b) {l : List α} {r : List β} (x : All2 R l r) : All2 R' l r := by
  induction x with
  | nil => exact .nil
  | cons x _ ih => exact .cons (m _ _ x) ih

inductive AO where
  | list (l : List AV)
  | dict (l : List (Str × AV))
  | tdict (l : List (List Str × AV))
  | cell (a : Option AV)
  | view (d : Addr)
  | lent
  | inst (C dx : Addr)
  | idict (l : List (Str × AV))
  | exc (C : Addr) (od : Option Addr)
  | ns (m : Str → Option AV)

structure Cfg where
  w : World
  mean : ExcName → Option Value
  mg : Str → Option Value
  mb : Str → Option Value
  G : Heap
noncomputable def vw : Program := view PySem.Challenge.pw_pq0226_01 [0,2,3,4,6,7,8,9,10,11,12,13,15,16,17,18,20,21,22,24,25,26,27,29,30,31,32,33,34,35,36,37,38,39,40,41]
noncomputable abbrev loose : List Str := looseW vw [Str.ofString "ChanError"]
structure Cfg.Ok (c : Cfg) : Prop where
  K : (KK c.w.params).In c.G
  T : Top vw loose c.mean c.mg c.mb c.G

noncomputable def EntR (h : Heap) (p : Str × AV) (e : DictEntry) : Prop := (∃ t, e.key = .str p.1 t) ∧ VR h p.2 e.val
noncomputable def PairR (h : Heap) (p : Str × AV) (q : Str × Value) : Prop := p.1 = q.1 ∧ VR h p.2 q.2
theorem EntR.mono {h h' : Heap} (x : TupExt h h') {p : Str × AV} {e : DictEntry} (r : EntR h p e) : EntR h' p e := ⟨r.1, r.2.mono x⟩
theorem PairR.mono {h h' : Heap} (x : TupExt h h') {p : Str × AV} {e : Str × Value} (r : PairR h p e) : PairR h' p e := ⟨r.1, r.2.mono x⟩

noncomputable def ObjR (c : Cfg) (h : Heap) (a : Addr) : AO → Prop
  | .list l => ∃ (vs : List Value) (n : Nat), h.get? a = some (listOf vs.toArray n) ∧ VRs h l vs
  | .dict l => (a == sysModules) = false ∧ ∃ kvs, h.DictOf (PySem.strKind pw c.w) a kvs ∧ All2 (PairR h) l kvs
  | .tdict l => (a == sysModules) = false ∧ ∃ xs, h.DictOfH (tupleKind (PySem.strKind pw c.w)) a xs ∧ All2 (fun (p : List Str × AV) (x : List Str × Addr × Value) => p.1 = x.1 ∧ VR h p.2 x.2.2) l xs
  | .cell none => h.IsCell a none
  | .cell (some b) => ∃ v, h.IsCell a (some v) ∧ VR h b v
  | .inst C dx => h.get? a = some (instObj C dx)
  | .view d => h.IsValuesView a d
  | .lent => ∃ ob, h.get? a = some ob ∧ ¬ (ob.cls = .type "tuple" ∧ ∃ items n, ob.data = .seq items n)
  | .ns m => ∃ mc, h.Ns1 a mc ∧ (∀ x, m x = none → mc x = none) ∧ ∀ x b, m x = some b → ∃ v, mc x = some v ∧ VR h b v
  | .exc C od => ∃ t, h.get? a = some { cls := .ref C, dict := od, data := .fields #[.ref t, .none, .none, .none, .bool false, .none] }
  | .idict l => ∃ es n, h.get? a = some (dictOf es n) ∧ All2 (EntR h) l es

theorem ObjR.there {c : Cfg} {h : Heap} {a : Addr} {o : AO} (x : ObjR c h a o) : ∃ ob, h.get? a = some ob ∧ ¬ (ob.cls = .type "tuple" ∧ ∃ items n, ob.data = .seq items n) := by
  cases o with
  | list => exact Exists.elim x fun _ z => Exists.elim z fun _ z => ⟨_, z.1, by simp⟩
  | dict => obtain ⟨_, _, ⟨ob, _, _, e, x, _⟩, _⟩ := x; exact ⟨ob, e, by rw [x.1]; simp⟩
  | tdict => obtain ⟨_, _, ⟨ob, _, _, e, x, _⟩, _⟩ := x; exact ⟨ob, e, by rw [x.1]; simp⟩
  | cell b =>
    cases b with
    | none => exact Exists.imp (fun _ z => ⟨z.1, by rw [z.2]; simp⟩) x
    | some b => exact Exists.elim x fun _ z => Exists.imp (fun _ z => ⟨z.1, by rw [z.2]; simp⟩) z.1
  | inst => exact ⟨_, x, by simp⟩
  | view => exact Exists.imp (fun _ z => ⟨z.1, by rw [z.2.1]; simp⟩) x
  | lent => exact x
  | idict => exact Exists.elim x fun _ z => Exists.elim z fun _ z => ⟨_, z.1, by simp⟩
  | exc => exact Exists.elim x fun _ e => ⟨_, e, by simp⟩
  | ns => obtain ⟨_, ⟨ob, _, _, e, d, _⟩, _⟩ := x; exact ⟨ob, e, fun ⟨_, _, _, z⟩ => by rw [d] at z; cases z⟩
noncomputable def KA : List Addr := [2, 3, 15, 17, 18, 20, 21, 22, 29, 30, 32, 33, 35, 36, 37, 38, 39, 40, 43, 50, 51, 52, 55, 62, 63, 64, 74, 75, 77, 78, 80, 81, 82, 83, 84, 85, 86, 89, 91, 92, 94, 95, 96, 98, 99, 101, 102, 103, 106, 107, 108, 110, 111, 113, 114, 122, 124, 125, 127, 128, 129, 131, 132, 134, 135, 136, 137, 138, 139, 140, 143, 145, 146, 148, 149, 150, 152, 153, 155, 156, 157, 159, 160, 162, 163, 164, 166, 167, 169, 170, 171, 174, 175, 176, 178, 179, 181, 182, 183, 186, 187, 188, 189, 190, 198, 200, 201, 203, 204, 205, 206, 207, 208, 209, 212, 214, 215, 217, 218, 226, 227, 229, 230, 232, 233, 234, 236, 237, 239, 240, 241, 243, 244, 246, 247, 248, 249, 250, 251, 252, 255, 257, 258, 260, 261, 262, 264, 265, 267, 268, 269, 271, 272, 274, 275, 276, 277, 278, 279, 280, 283, 284, 285, 287, 288, 290, 291, 292, 295, 296, 297, 299, 300, 302, 303, 304, 307, 308, 309, 312, 313, 314, 316, 317, 319, 320, 321, 324, 325, 326, 328, 329, 331, 332]
noncomputable abbrev HK : Hook := kHook KK KA (fun _ => by rfl)
noncomputable def bo (P : Params) (i : Nat) : Obj := (boot_heap P).objs.toList.getD i default
noncomputable def T0 : Obj := { cls := .type "tuple", data := .seq #[] }
noncomputable def lt (l : List (Int × Addr)) : Obj := { cls := .none, data := .fields ⟨l.flatMap fun x => [.int x.1 0, .int 0 0, .ref x.2]⟩ }
noncomputable def l4 (l : List (Int × Addr)) : Obj := { cls := .none, data := .fields ⟨l.flatMap fun x => [.int x.1 0, .int 4 0, .ref x.2]⟩ }
noncomputable def bn (n : String) (v : Value) : Obj := { cls := .type "builtin_function_or_method", data := .fields #[.builtin n, v] }
noncomputable def sp (a : Addr) : Obj := { cls := .type "super", data := .fields #[.ref a, .ref a, .ref a] }
noncomputable def cd (n : String) (t : Tok) (l : Int) (a b : Addr) : Obj := { cls := .type "code", data := .fields #[.str (Str.ofString n) t, .str (Str.ofString n) (t + 1), .str (Str.ofString "/claim/cut.py") (t + 2), .int l 0, .int 0 0, .int 0 0, .int 0 0, .int 0 0, .ref a, .bool false, .int 181 0, .ref b, .none, .none, .none, .none, .int (t + 3) 0, .int l 0, .str (Str.ofString "/claim/cut.py") (t + 4)] }
noncomputable def fr (c l : Addr) (m : String) (t : Tok) : Obj := { cls := .type "frame", slots := #[some (.ref c), some (.ref 3), some (.ref l), none, some (.str (Str.ofString m) t), none, some (.ref 0)] }
noncomputable def dc (P : Params) (l : List (String × Tok × Value)) : Obj := { cls := .type "dict", data := .dict ⟨l.map fun x => { hash := PyData.keyHash P (Str.ofString x.1), key := .str (Str.ofString x.1) x.2.1, val := x.2.2 }⟩ l.length }
noncomputable def tmO (s : Stmt) (q : String) : Obj := match s with
  | .FunctionDef n a b _ _ _ sc _ _ _ => { cls := .none, data := .func { name := n, qualname := Str.ofString q, params := a, body := .stmts b, scope := sc, globals := 0, closure := [], defaults := .none, kwdefaults := .none } }
  | _ => default
noncomputable def RR (P : Params) : List (Nat × Obj) := [
  (0,bo P 0),(1,bo P 1),(4,bo P 4),(5,bo P 5),(6,bo P 6),(7,bo P 7),(8,bo P 8),(9,bo P 9),(10,bo P 10),(11,T0),
  (12,lt [(1,20),(5,27),(11,48),(13,60),(16,72),(22,94),(24,101),(26,106),(40,113),(49,120),(68,148),(76,155),(95,162),(106,169),(111,174),(115,181),(128,186),(139,196),(146,217),(155,224),(189,260),(194,267),(201,274),(204,283),(221,290),(227,295),(246,302),(251,307),(265,312),(278,319),(284,324),(287,331)]),
  (13,cd "<module>" 182 1 11 12),(14,fr 13 3 "__main__" 164),(16,lt []),(19,tmO (stAt 0) "_wall"),(23,bn "type.__prepare__" (.type "type")),
  (24,dc P [("__module__",203,.str (Str.ofString "chancore.errors") 194),("__qualname__",205,.str (Str.ofString "ChanError") 204),("__firstlineno__",207,.int 5 206),("__init__",217,.ref 36),("__static_attributes__",220,.ref 37)]),
  (25,T0),(26,l4 [(7,35)]),(27,cd "ChanError" 198 5 25 26),(28,fr 27 24 "chancore.errors" 194),(31,lt []),
  (34,tmO (inCls (stAt 2) 0) "ChanError.__init__"),(41,sp 39),(42,bn "object.__init_subclass__" (.ref 39)),
  (44,bn "type.__prepare__" (.type "type")),
  (45,dc P [("__module__",235,.str (Str.ofString "chancore.errors") 194),("__qualname__",237,.str (Str.ofString "NameFault") 236),("__firstlineno__",239,.int 11 238),("__static_attributes__",240,.ref 50)]),
  (46,T0),(47,lt []),(48,cd "NameFault" 230 11 46 47),(49,fr 48 45 "chancore.errors" 194),(53,sp 52),
  (54,bn "object.__init_subclass__" (.ref 52)),(56,bn "type.__prepare__" (.type "type")),
  (57,dc P [("__module__",251,.str (Str.ofString "chancore.errors") 194),("__qualname__",253,.str (Str.ofString "TypeFault") 252),("__firstlineno__",255,.int 13 254),("__static_attributes__",256,.ref 62)]),
  (58,T0),(59,lt []),(60,cd "TypeFault" 246 13 58 59),(61,fr 60 57 "chancore.errors" 194),(65,sp 64),
  (66,bn "object.__init_subclass__" (.ref 64)),(67,T0),(68,bn "type.__prepare__" (.type "type")),
  (69,dc P [("__module__",269,.str (Str.ofString "chancore.lookup") 260),("__qualname__",271,.str (Str.ofString "Reached") 270),("__firstlineno__",273,.int 16 272),("__init__",283,.ref 81),("__static_attributes__",287,.ref 82)]),
  (70,T0),(71,l4 [(18,80)]),(72,cd "Reached" 264 16 70 71),(73,fr 72 69 "chancore.lookup" 260),(76,lt []),
  (79,tmO (inCls (stAt 6) 0) "Reached.__init__"),(87,sp 84),(88,bn "object.__init_subclass__" (.ref 84)),(90,lt []),
  (93,tmO (stAt 7) "without_pointer"),(97,lt []),(100,tmO (stAt 8) "own_methods"),(104,lt []),(105,tmO (stAt 9) "members_at"),(109,lt []),
  (112,tmO (stAt 10) "embedded_in"),(115,T0),(116,bn "type.__prepare__" (.type "type")),
  (117,dc P [("__module__",337,.str (Str.ofString "chancore.lookup") 260),("__qualname__",339,.str (Str.ofString "Levels") 338),("__firstlineno__",341,.int 49 340),("__init__",350,.ref 128),("go_on",360,.ref 135),("__static_attributes__",364,.ref 136)]),
  (118,T0),(119,l4 [(51,127),(56,134)]),(120,cd "Levels" 332 49 118 119),(121,fr 120 117 "chancore.lookup" 260),(123,lt []),
  (126,tmO (inCls (stAt 11) 0) "Levels.__init__"),(130,lt []),(133,tmO (inCls (stAt 11) 1) "Levels.go_on"),(141,sp 138),
  (142,bn "object.__init_subclass__" (.ref 138)),(144,lt []),(147,tmO (stAt 12) "start_type"),(151,lt []),(154,tmO (stAt 13) "find_member"),
  (158,lt []),(161,tmO (stAt 15) "names_of_methods"),(165,lt []),(168,tmO (stAt 16) "member_or_none"),(172,lt []),
  (173,tmO (stAt 17) "is_in_set"),(177,lt []),(180,tmO (stAt 18) "method_set"),(184,lt []),(185,tmO (stAt 22) "want_few_parts"),(191,T0),
  (192,bn "type.__prepare__" (.type "type")),
  (193,dc P [("__module__",463,.str (Str.ofString "chancore.world") 452),("__qualname__",465,.str (Str.ofString "NamedRow") 464),("__firstlineno__",467,.int 139 466),("__init__",478,.ref 204),("__static_attributes__",483,.ref 205)]),
  (194,T0),(195,l4 [(141,203)]),(196,cd "NamedRow" 458 139 194 195),(197,fr 196 193 "chancore.world" 452),(199,lt []),
  (202,tmO (inCls (stAt 25) 0) "NamedRow.__init__"),(210,sp 207),(211,bn "object.__init_subclass__" (.ref 207)),(213,lt []),
  (216,tmO (stAt 26) "known_rows"),(219,T0),(220,bn "type.__prepare__" (.type "type")),
  (221,dc P [("__module__",511,.str (Str.ofString "chancore.world") 452),("__qualname__",513,.str (Str.ofString "World") 512),("__firstlineno__",515,.int 155 514),("__init__",523,.ref 233),("base_of",532,.ref 240),("settled",540,.ref 247),("__static_attributes__",556,.ref 248)]),
  (222,T0),(223,l4 [(157,232),(174,239),(186,246)]),(224,cd "World" 506 155 222 223),(225,fr 224 221 "chancore.world" 452),(228,lt []),
  (231,tmO (inCls (stAt 27) 0) "World.__init__"),(235,lt []),(238,tmO (inCls (stAt 27) 1) "World.base_of"),(242,lt []),
  (245,tmO (inCls (stAt 27) 2) "World.settled"),(253,sp 250),(254,bn "object.__init_subclass__" (.ref 250)),(256,lt []),
  (259,tmO (stAt 29) "_law_pool"),(263,lt []),(266,tmO (stAt 30) "_law_take"),(270,lt []),(273,tmO (stAt 31) "_law_one"),(281,lt []),
  (282,tmO (stAt 33) "_law_drawn"),(286,lt []),(289,tmO (stAt 34) "_law_world"),(293,lt []),(294,tmO (stAt 35) "_law_found"),(298,lt []),
  (301,tmO (stAt 36) "_law_told"),(305,lt []),(306,tmO (stAt 37) "_law_layers_right"),(310,lt []),(311,tmO (stAt 38) "_law_deep_right"),
  (315,lt []),(318,tmO (stAt 39) "_law_told_few"),(322,lt []),(323,tmO (stAt 40) "_law_parts_right"),(327,lt []),(330,tmO (stAt 41) "law")]
noncomputable def mrg : Nat → List (Nat × Obj) → List (Nat × Obj) → List Obj
  | 0, _, _ => []
  | n + 1, (a, o) :: l, (b, p) :: m => if Nat.ble a b then o :: mrg n l ((b, p) :: m) else p :: mrg n ((a, o) :: l) m
  | n + 1, (_, o) :: l, [] => o :: mrg n l []
  | n + 1, [], (_, p) :: m => p :: mrg n [] m
  | _, [], [] => []
noncomputable def O1 (P : Params) : List Obj := mrg 333 (KK P) (RR P)
noncomputable def nam (x : String × Tok) : List DictEntry → List DictEntry
  | ⟨h, k, _⟩ :: l => ⟨h, k, .str (Str.ofString x.1) x.2⟩ :: l
  | l => l
noncomputable def cut2 (g : Nat) : Obj → Obj
  | ⟨c, d, .dict e _, s⟩ => ⟨c, d, .dict ⟨e.toList.take g⟩ g, s⟩
  | o => o
noncomputable def cut3 (x : String × Tok) (g : Nat) : Obj → Obj
  | ⟨c, d, .dict e _, s⟩ => ⟨c, d, .dict ⟨nam x (e.toList.take g)⟩ g, s⟩
  | o => o
noncomputable def cut12 (f : Nat) : Obj → Obj
  | ⟨c, d, .fields e, s⟩ => ⟨c, d, .fields ⟨e.toList.take f⟩, s⟩
  | o => o
noncomputable def cut39 (k : Nat) : Obj → Obj
  | ⟨c, d, .cls e, s⟩ => ⟨c, d, .cls { e with subclasses := e.subclasses.take k }, s⟩
  | o => o
noncomputable def cutI (x : String × Tok) (g st f k i : Nat) (o : Obj) : Obj :=
  match Nat.beq i 3 with
  | true => cut3 x g o
  | false => match Nat.beq i 12 with
    | true => cut12 f o
    | false => match Nat.beq i 2 with
      | true => cut2 st o
      | false => match Nat.beq i 39 with
        | true => cut39 k o
        | false => o
noncomputable def bt (L : List Obj) (x : String × Tok) (n g st f k : Nat) : Nat → Nat → Nat → BT
  | 0, _, _ => .nil
  | d + 1, a, b => match Nat.ble n b with
    | true => .nil
    | false => .node (cutI x g st f k b (L.getD b default)) (bt L x n g st f k d (2 * a) (a + b)) (bt L x n g st f k d (2 * a) (2 * a + b))
noncomputable abbrev Sm (n : Nat) (x : String × Tok) (g st f k t : Nat) (w : World) (os : OsState) : SharedT := ⟨bt (O1 w.params) x n g st f k 10 1 0, n, {}, #[], boot_drawn, t, os⟩
noncomputable abbrev S1 (w : World) (os : OsState) : Shared := ⟨⟨⟨O1 w.params⟩, {}⟩, #[], boot_drawn, 667, os⟩
noncomputable abbrev S0 (w : World) (os : OsState) : Shared := ⟨boot_heap w.params, Array.mk [], boot_drawn, boot_toks, os⟩
noncomputable abbrev bE : List Stmt := behindTheImports pw
noncomputable abbrev envE : Env := { scope := pw.main.scope, locals := mainNs, globals := mainNs, cells := [], code := .ref 13, frame := some 14 }
noncomputable abbrev cE : Code := .body bE envE
noncomputable abbrev p0 : Pos := ⟨0, 0, 0, 0⟩
noncomputable abbrev aE : Option Value := some (.ref 6)
noncomputable abbrev fE : List Frame := [topFrame p0]
set_option maxRecDepth 100000 in
set_option maxHeartbeats 0 in
theorem run_pre (w : World) (os : OsState) : topGo treeTable pw w 11 aE 12 (S0 w os) (topStub pw) = some ((Sm 15 ("__main__", 164) 9 0 0 0 187 w os).abs, ⟨denote treeTable cE, cE, p0, fE⟩) := by kernel_rfl
set_option maxRecDepth 100000 in
set_option maxHeartbeats 0 in
theorem run_block (w : World) (os : OsState) : segRunT treeTable pw w 11 aE 1 1 (Sm 15 ("__main__", 164) 9 0 0 0 187 w os) (blockOf bE envE cE p0 fE) = some (.next, Sm 15 ("__main__", 164) 9 0 0 0 187 w os, cE, p0) := by kernel_rfl
set_option maxRecDepth 100000 in
set_option maxHeartbeats 0 in
theorem run_5 (w : World) (os : OsState) : segRunT treeTable pw w 11 aE 1 706 (Sm 15 ("__main__", 164) 9 0 0 0 187 w os) (piecesOf ((bE.drop 0).take 6) envE cE p0 fE) = some (.next, Sm 67 ("chancore.lookup", 260) 13 2 12 2 262 w os, cE, ⟨15, 0, 15, 8⟩) := by kernel_rfl
set_option maxRecDepth 100000 in
set_option maxHeartbeats 0 in
theorem run_24 (w : World) (os : OsState) : segRunT treeTable pw w 11 aE 1 890 (Sm 67 ("chancore.lookup", 260) 13 2 12 2 262 w os) (piecesOf ((bE.drop 6).take 19) envE cE ⟨15, 0, 15, 8⟩ fE) = some (.next, Sm 191 ("chancore.world", 452) 29 2 51 2 456 w os, cE, ⟨138, 0, 138, 5⟩) := by kernel_rfl
set_option maxRecDepth 100000 in
set_option maxHeartbeats 0 in
theorem run_41 (w : World) (os : OsState) : segRunT treeTable pw w 11 aE 1 945 (Sm 191 ("chancore.world", 452) 29 2 51 2 456 w os) (piecesOf ((bE.drop 25).take 17) envE cE ⟨138, 0, 138, 5⟩ fE) = some (.next, Sm 333 ("law_pq0226_01", 564) 45 2 96 2 667 w os, cE, ⟨287, 0, 296, 62⟩) := by kernel_rfl
set_option maxRecDepth 100000 in
set_option maxHeartbeats 0 in
theorem run_fin (w : World) (os : OsState) : topRun treeTable pw w 11 aE 2 (Sm 333 ("law_pq0226_01", 564) 45 2 96 2 667 w os).abs ⟨doneF .next, cE, ⟨287, 0, 296, 62⟩, fE⟩ = some (S1 w os) := by kernel_rfl
theorem piece_on {w : World} {b : List Stmt} {j k n N : Nat} {s s' r : Shared} {c : Code} {pos p' : Pos} (h : segRun treeTable pw w 11 aE 1 n s (piecesOf ((b.drop j).take k) envE c pos fE) = some (.next, s', c, p'))
    (x : topRun treeTable pw w 11 aE N s' (restOf (b.drop (j + k)) envE c p' fE) = some r) : topRun treeTable pw w 11 aE (n + N) s (restOf (b.drop j) envE c pos fE) = some r := by
  have e : b.drop j = (b.drop j).take k ++ b.drop (j + k) := by rw [← List.drop_drop, List.take_append_drop]
  rw [e]
  exact piece_app h x
set_option maxRecDepth 100000 in
set_option maxHeartbeats 0 in
theorem bE_end : bE.drop 42 = [] := by kernel_rfl
theorem run_all (w : World) (os : OsState) : topRun treeTable pw w 11 aE (12 + (1 + (706 + (890 + (945 + 2))))) (S0 w os) (topStub pw) = some (S1 w os) := by
  refine go_top (run_pre w os) (piece_block (segRun_of (run_block w os)) ?_)
  show topRun _ _ _ _ _ _ _ (restOf (bE.drop 0) envE cE p0 fE) = _
  refine piece_on (segRun_of (run_5 w os)) ?_
  refine piece_on (segRun_of (run_24 w os)) ?_
  refine piece_on (segRun_of (run_41 w os)) ?_
  show topRun _ _ _ _ _ _ _ (restOf (bE.drop 42) envE cE _ fE) = _
  rw [bE_end]
  exact piece_nil (run_fin w os)
noncomputable abbrev lo : List Str := [Str.ofString "ChanError"]
noncomputable abbrev XtE : Shared → Bool := fun s => xlAt vw [] s && recOk (RowW.records PySem.Challenge.rw_pq0226_01.row.toRowW) s
theorem left_open : ∀ w : World, (fencedOpening treeTable pw w 5202).map (fun s => (s.heap, s.gens, s.drawn, s.toks)) = some (boot_heap w.params, Array.mk [], boot_drawn, boot_toks) :=
  boot_open (by kernel_rfl) (by decide +kernel) (fun _ => rfl)
theorem left_size (w : World) : ((boot_heap w.params).isNs mainGlobals && (Array.mk [] : Array GenState).size == 0, (boot_heap w.params).objs.size, (boot_heap w.params).nsMap mainGlobals "__annotations__") = (true, 11, aE) := by kernel_rfl
set_option maxRecDepth 100000 in
set_option maxHeartbeats 0 in
theorem look_a (w : World) (os : OsState) : (staticsOk (importedModules pw.main.body) (boot_heap w.params) (S1 w os).heap && namesBound pw (S1 w os).heap && gensDone (S1 w os) && laidKept (boot_heap w.params) (S1 w os).heap) = true := by kernel_rfl
set_option maxRecDepth 100000 in
set_option maxHeartbeats 0 in
theorem look_s (w : World) (os : OsState) : openSeen vw lo (importedModules pw.main.body) XtE true (S1 w os) = openGood vw lo := by kernel_rfl
set_option maxRecDepth 100000 in
set_option maxHeartbeats 0 in
theorem look_y (w : World) (os : OsState) : HK.obs (S1 w os) = HK.val w := by kernel_rfl
theorem left : LeftO pw vw lo XtE HK.obs HK.val 5202 :=
  LeftO.of_pieces (H₀ := boot_heap) (H₁ := fun P => ⟨⟨O1 P⟩, {}⟩) (gs₀ := Array.mk []) (gs₁ := #[]) (d₀ := boot_drawn) (d₁ := boot_drawn) (k₀ := boot_toks) (k₁ := 667) (m₀ := 11) (ann := aE) (M := 12 + (1 + (706 + (890 + (945 + (2)))))) left_open left_size run_all (by decide +kernel)
    fun w => funext fun os => Prod.ext (look_a w os) (Prod.ext (look_s w os) (look_y w os))
abbrev rwP : Program := PySem.Challenge.rw_pq0226_01.row.prog

set_option maxRecDepth 100000 in
theorem sd1 : sreFenced rwP.main = true := by kernel_rfl
set_option maxRecDepth 100000 in
theorem sd2 : ((moduleNames rwP.main.body).isEmpty || lookedIntoSs (moduleNames rwP.main.body) rwP.main.body) = true := by kernel_rfl
set_option maxRecDepth 100000 in
theorem sd3 : namesResolve rwP = true := by kernel_rfl
set_option maxRecDepth 100000 in
theorem sd4 : (rwP.boundNames.all fun n => !worldNames.contains n) = true := by kernel_rfl
set_option maxRecDepth 100000 in
theorem sd5 : noRoadLSs { strict := !(importedModules rwP.main.body).all cThrough.contains, foot := none, bare := (["vars", "dir", "locals"] : List Str).filter (readsOut rwP rwP.main.body) } rwP.main.body = true := by kernel_rfl
set_option maxRecDepth 100000 in
theorem sd6 : (namesMeet rwP rwP.main.body fun _ n => attrL n) = true := by kernel_rfl
set_option maxRecDepth 100000 in
theorem sd7 : looksOpen rwP = true := look_both (look_both (look_both (look_both (look_both sd1 sd2) sd3) sd4) sd5) sd6
set_option maxRecDepth 100000 in
theorem said_ok : PySem.Challenge.rw_pq0226_01.wellSaid = true := by
  unfold OpenLaw.wellSaid OpenRow.wellSaid OpenRow.partSaid
  repeat' (with_reducible refine look_both ?_ ?_)
  all_goals first | with_reducible exact sd7 | kernel_rfl
noncomputable abbrev AEnv := Str → Option AV
noncomputable abbrev AH := Addr → Option AO
noncomputable def upd (H : AH) (a : Addr) (o : AO) : AH := fun b => if b = a then some o else H b
noncomputable def put (m : AEnv) (x : Str) (a : AV) : AEnv := fun y => if y = x then some a else m y
theorem upd_same (H : AH) (a : Addr) (o : AO) : upd H a o a = some o := if_pos rfl
theorem upd_ne {H : AH} {a b : Addr} {o : AO} (h : b ≠ a) : upd H a o b = H b := if_neg h
theorem upd_old {H : AH} {a b : Addr} {o x : AO} (f : H a = none) (h : H b = some x) : upd H a o b = some x := by
  rw [upd_ne, h]
  rintro rfl
  rw [f] at h; cases h

structure Frm where
  env : Env
  am : AEnv

noncomputable def MapR (h : Heap) (mc : Str → Option Value) (am : AEnv) : Prop := ∀ x a, am x = some a → ∃ v, mc x = some v ∧ VR h a v
theorem MapR.mono {h h' : Heap} (x : TupExt h h') {mc : Str → Option Value} {am : AEnv} (r : MapR h mc am) : MapR h' mc am := fun y a e => let ⟨v, e', q⟩ := r y a e; ⟨v, e', q.mono x⟩

structure FrmR (c : Cfg) (h : Heap) (f : Frm) : Prop where
  kind : f.env.scope.kind = .function
  new : c.G.get? f.env.locals = none
  above : c.G.objs.size ≤ f.env.locals
  ns : ∃ mc, h.Ns f.env.locals mc ∧ MapR h mc f.am

structure St (c : Cfg) (fs : List Frm) (H : AH) (h : Heap) : Prop where
  ground : Keeps c.G h
  objs : ∀ a o, H a = some o → c.G.get? a = none ∧ (∀ f ∈ fs, f.env.locals ≠ a) ∧ ObjR c h a o
  frs : ∀ f ∈ fs, FrmR c h f
  apart : (fs.map fun f => f.env.locals).Nodup

theorem ObjR.mono {c : Cfg} {h h' : Heap} {a : Addr} (x : TupExt h h') (k : ∀ ob, h.get? a = some ob → h'.get? a = some ob) {o : AO} (z : ObjR c h a o) : ObjR c h' a o := by
  cases o with
  | list => exact Exists.imp (fun _ => Exists.imp fun _ z => ⟨k _ z.1, z.2.mono x⟩) z
  | dict => exact And.imp_right (Exists.imp fun _ z => ⟨Exists.imp (fun _ => Exists.imp fun _ => Exists.imp fun _ z => ⟨k _ z.1, z.2⟩) z.1, z.2.mono fun _ _ z => z.mono x⟩) z
  | tdict =>
    obtain ⟨m, xs, ⟨ob, es, ep, e, y, z, z', ks, nd⟩, q⟩ := z
    exact ⟨m, xs, ⟨ob, es, ep, k _ e, y, z, z', fun p hp => by
      obtain ⟨o, items, n, e1, c1, d1, i1⟩ := ks p hp
      obtain ⟨o', e2, c2, n', d2⟩ := x _ _ ⟨o, e1, c1, n, d1⟩
      exact ⟨o', items, n', e2, c2, d2, i1⟩, nd⟩, q.mono fun _ _ z => ⟨z.1, z.2.mono x⟩⟩
  | cell b =>
    cases b with
    | none => exact Exists.imp (fun _ z => ⟨k _ z.1, z.2⟩) z
    | some b => exact Exists.imp (fun _ z => ⟨Exists.imp (fun _ z => ⟨k _ z.1, z.2⟩) z.1, z.2.mono x⟩) z
  | inst => exact k _ z
  | view => exact Exists.imp (fun _ z => ⟨k _ z.1, z.2⟩) z
  | lent => exact Exists.imp (fun _ z => ⟨k _ z.1, z.2⟩) z
  | idict => exact Exists.imp (fun _ => Exists.imp fun _ z => ⟨k _ z.1, z.2.mono fun _ _ z => z.mono x⟩) z
  | exc => exact Exists.imp (fun _ e => k _ e) z
  | ns => exact Exists.imp (fun _ z => ⟨Exists.imp (fun _ => Exists.imp fun _ => Exists.imp fun _ z => ⟨k _ z.1, z.2⟩) z.1, z.2.1, fun y b e => Exists.imp (fun _ z => ⟨z.1, z.2.mono x⟩) (z.2.2 y b e)⟩) z
theorem FrmR.mono {c : Cfg} {h h' : Heap} {f : Frm} (x : TupExt h h') (k : ∀ m, h.Ns f.env.locals m → h'.Ns f.env.locals m) (r : FrmR c h f) : FrmR c h' f :=
  ⟨r.kind, r.new, r.above, let ⟨mc, n, q⟩ := r.ns; ⟨mc, k _ n, q.mono x⟩⟩

section
variable {c : Cfg} {fs : List Frm} {H : AH} {h h' : Heap}
theorem St.keeps (S : St c fs H h) (k : Keeps h h') : St c fs H h' where
  ground := S.ground.trans k
  objs := fun a o e => let ⟨p, q, r⟩ := S.objs a o e; ⟨p, q, r.mono k.tup fun _ => k _ _⟩
  frs := fun f m => (S.frs f m).mono k.tup fun _ n => n.keeps k
  apart := S.apart
theorem St.fresh (S : St c fs H h) {a : Addr} (e : h.get? a = none) : H a = none := by
  cases q : H a with
  | none => rfl
  | some o =>
    obtain ⟨_, _, r⟩ := S.objs a o q
    obtain ⟨ob, z, _⟩ := r.there
    rw [e] at z; cases z
theorem St.alloc (S : St c fs H h) (k : Keeps h h') {a : Addr} (e : h.get? a = none) {o : AO} (r : ObjR c h' a o) : St c fs (upd H a o) h' where
  ground := S.ground.trans k
  objs := fun b o' q => by
    by_cases z : b = a
    · subst z
      rw [upd_same] at q; cases q
      refine ⟨?_, fun f m z => ?_, r⟩
      · cases w : c.G.get? b with
        | none => rfl
        | some o => have := S.ground _ _ w; rw [e] at this; cases this
      · obtain ⟨mc, n, _⟩ := (S.frs f m).ns
        obtain ⟨ob, _, _, g, _⟩ := n
        rw [z, e] at g; cases g
    · rw [upd_ne z] at q
      exact (S.keeps k).objs b o' q
  frs := (S.keeps k).frs
  apart := S.apart
/-- one object of ours is changed -/
theorem St.upd (S : St c fs H h) {d : Addr} {o o' : AO} (e : H d = some o) (k : ∀ b ob, b ≠ d → h.get? b = some ob → h'.get? b = some ob) (x : TupExt h h') (r : ObjR c h' d o') : St c fs (Mine.upd H d o') h' where
  ground := fun b ob q => k b ob (by rintro rfl; rw [(S.objs _ _ e).1] at q; cases q) (S.ground b ob q)
  objs := fun b ob q => by
    by_cases z : b = d
    · subst z
      rw [upd_same] at q; cases q
      exact ⟨(S.objs _ _ e).1, (S.objs _ _ e).2.1, r⟩
    · rw [upd_ne z] at q
      obtain ⟨p, q', r'⟩ := S.objs b ob q
      exact ⟨p, q', r'.mono x fun _ => k _ _ z⟩
  frs := fun f m => (S.frs f m).mono x fun mc n => by
    obtain ⟨ob, es, ep, g, rr⟩ := n
    exact ⟨ob, es, ep, k _ _ ((S.objs _ _ e).2.1 f m) g, rr⟩
  apart := S.apart
theorem tupExt_of {d : Addr} {ob : Obj} (g : h.get? d = some ob) (hc : ob.cls ≠ .type "tuple") (k : ∀ b o, b ≠ d → h.get? b = some o → h'.get? b = some o) : TupExt h h' := fun a items ⟨o, e, c, r⟩ =>
  ⟨o, k _ _ (by rintro rfl; rw [g] at e; cases e; exact hc c) e, c, r⟩
end

section
variable {c : Cfg} {rest : List Frm} {env : Env} {am am' : AEnv} {H : AH} {h h' : Heap}
theorem St.top (S : St c (⟨env, am⟩ :: rest) H h) : FrmR c h ⟨env, am⟩ := S.frs _ (.head _)
/-- the top frame's names are changed -/
theorem St.names (S : St c (⟨env, am⟩ :: rest) H h) (k : ∀ b ob, b ≠ env.locals → h.get? b = some ob → h'.get? b = some ob) (x : TupExt h h') (n : ∃ mc, h'.Ns env.locals mc ∧ MapR h' mc am') : St c (⟨env, am'⟩ :: rest) H h' where
  ground := fun b ob q => k b ob (by rintro rfl; have := S.top.new; rw [q] at this; cases this) (S.ground b ob q)
  objs := fun b ob q => by
    obtain ⟨p, q', r'⟩ := S.objs b ob q
    have z : b ≠ env.locals := fun z => q' _ (.head _) z.symm
    refine ⟨p, fun f m => ?_, r'.mono x fun _ => k _ _ z⟩
    rcases List.mem_cons.mp m with rfl | m
    · exact q' ⟨env, am⟩ (.head _)
    · exact q' f (.tail _ m)
  frs := fun f m => by
    rcases List.mem_cons.mp m with rfl | m
    · exact ⟨S.top.kind, S.top.new, S.top.above, n⟩
    · refine (S.frs f (.tail _ m)).mono x fun mc n => ?_
      obtain ⟨ob, es, ep, g, rr⟩ := n
      refine ⟨ob, es, ep, k _ _ ?_ g, rr⟩
      have a := S.apart
      rw [List.map_cons, List.nodup_cons] at a
      intro z
      exact a.1 (List.mem_map.mpr ⟨f, m, z⟩)
  apart := S.apart
end

/-- the frames of calls among the spaces -/
noncomputable def callEnvs (es : List Env) : List Env := es.filter fun e => e.frame == some e.locals
structure AOk (A : Around) (k : Nat) (envs : List Env) : Prop where
  frames : A.frames = some (callEnvs envs)
  handled : A.handled = none
  depth : A.depth + 2 * k < recursionLimit
  units : A.units + 10 * k + 10 < cLine

noncomputable abbrev envs (rest : List Frm) (env : Env) : List Env := env :: rest.map (·.env)

/-- not ours, or lent -/
noncomputable def free (H : AH) (b : Addr) : Prop := H b = none ∨ H b = some .lent
theorem free.of_eq {H H' : AH} {b : Addr} (x : free H b) (e : H' b = H b) : free H' b := by unfold free at *; rw [e]; exact x
theorem free.ne {H : AH} {b d : Addr} {o : AO} (x : free H b) (q : H d = some o) (n : o ≠ .lent) : b ≠ d := by
  rintro rfl
  rcases x with x | x
  · rw [q] at x; cases x
  · rw [q] at x; exact n (Option.some.inj x)
/-- what a run leaves as it was: tuples, and all that is neither ours nor a frame's, or that is lent -/
structure Ext (es : List Env) (H : AH) (h : Heap) (H' : AH) (h' : Heap) : Prop where
  tup : TupExt h h'
  keep : ∀ b o, h.get? b = some o → free H b → (∀ e ∈ es, e.locals ≠ b) → h'.get? b = some o ∧ H' b = H b
theorem Ext.refl {es : List Env} {H : AH} {h : Heap} : Ext es H h H h := ⟨.refl _, fun _ _ e n _ => ⟨e, rfl⟩⟩
theorem Ext.trans {es : List Env} {H H' H'' : AH} {h h' h'' : Heap} (x : Ext es H h H' h') (y : Ext es H' h' H'' h'') : Ext es H h H'' h'' :=
  ⟨x.tup.trans y.tup, fun b o e n f => let ⟨e', n'⟩ := x.keep b o e n f; let ⟨e'', n''⟩ := y.keep b o e' (n.of_eq n') f; ⟨e'', n''.trans n'⟩⟩
theorem Ext.of_keeps {es : List Env} {H : AH} {h h' : Heap} (k : Keeps h h') : Ext es H h H h' := ⟨k.tup, fun _ _ e n _ => ⟨k _ _ e, rfl⟩⟩
theorem Ext.of_alloc {es : List Env} {H : AH} {h h' : Heap} {a : Addr} {o : AO} (k : Keeps h h') (n : h.get? a = none) : Ext es H h (upd H a o) h' :=
  ⟨k.tup, fun b ob e m _ => ⟨k _ _ e, by rw [upd_ne]; rintro rfl; rw [n] at e; cases e⟩⟩
theorem Ext.of_upd {es : List Env} {H : AH} {h h' : Heap} {d : Addr} {o o' : AO} (q : H d = some o) (x : TupExt h h') (k : ∀ b ob, b ≠ d → h.get? b = some ob → h'.get? b = some ob) (nl : o ≠ .lent := by simp) : Ext es H h (upd H d o') h' :=
  ⟨x, fun b ob e m _ => by
    have z : b ≠ d := m.ne q nl
    exact ⟨k _ _ z e, upd_ne z⟩⟩
theorem Ext.of_names {es : List Env} {env : Env} {H : AH} {h h' : Heap} (me : env ∈ es) (x : TupExt h h') (k : ∀ b ob, b ≠ env.locals → h.get? b = some ob → h'.get? b = some ob) : Ext es H h H h' :=
  ⟨x, fun b ob e m f => ⟨k _ _ (fun z => f _ me z.symm) e, rfl⟩⟩

inductive Post (c : Cfg) (rest : List Frm) (env : Env) {α β : Type} (R : Heap → β → α → Prop) (H : AH) (Q : α → AEnv → AH → Prop) (s : Shared) (v : β) (s' : Shared) : Prop
  | mk (a : α) (am' : AEnv) (H' : AH) (h' : Heap) (tk : Nat) (_ : s' = { s with heap := h', toks := tk }) (_ : R h' v a) (_ : Ext (envs rest env) H s.heap H' h') (_ : St c (⟨env, am'⟩ :: rest) H' h') (_ : Q a am' H') : Post c rest env R H Q s v s'
section
variable {c : Cfg} {rest : List Frm} {env : Env} {α β : Type} {R : Heap → β → α → Prop} {H : AH} {Q Q' : α → AEnv → AH → Prop} {s : Shared} {v : β} {s' : Shared}
theorem Post.intro {a : α} {am' : AEnv} {H' : AH} {h' : Heap} {tk : Nat}
    (r : R h' v a) (x : Ext (envs rest env) H s.heap H' h') (S : St c (⟨env, am'⟩ :: rest) H' h') (q : Q a am' H') : Post c rest env R H Q s v { s with heap := h', toks := tk } := ⟨a, am', H', h', tk, rfl, r, x, S, q⟩
theorem Post.here {a : α} {am' : AEnv} (r : R s.heap v a) (S : St c (⟨env, am'⟩ :: rest) H s.heap) (q : Q a am' H) : Post c rest env R H Q s v s := ⟨a, am', H, s.heap, s.toks, rfl, r, .refl, S, q⟩
theorem Post.after {H₁ : AH} {h₁ : Heap} {tk₁ : Nat} (x : Ext (envs rest env) H s.heap H₁ h₁) (p : Post c rest env R H₁ Q { s with heap := h₁, toks := tk₁ } v s') : Post c rest env R H Q s v s' := by
  obtain ⟨a, am', H', h', tk, e, r, y, S, q⟩ := p
  exact ⟨a, am', H', h', tk, e, r, x.trans y, S, q⟩
theorem Post.mono (p : Post c rest env R H Q s v s') (q : ∀ a m H, Q a m H → Q' a m H) : Post c rest env R H Q' s v s' := by
  obtain ⟨a, am', H', h', tk, e, r, y, S, z⟩ := p
  exact ⟨a, am', H', h', tk, e, r, y, S, q _ _ _ z⟩
end

noncomputable abbrev Md (c : Cfg) : Model := model pw c.w
/-- no exception comes out: any E serves -/
theorem noE {M : Model} {A : Around} {β : Type} {t : Sem β} {P : β → Shared → Prop} {E : Value → Shared → Prop} {s : Shared} (h : wpAny M A t P (fun _ _ => False) s) : wpAny M A t P E s := wpAny_mono h (fun _ _ p => p) fun _ _ f => f.elim

/-- from a state (am, H) of the frame env the tree t ends, and Q holds of its answer and of the new state -/
noncomputable def W (c : Cfg) (k : Nat) (rest : List Frm) (env : Env) {α β : Type} (R : Heap → β → α → Prop) (t : Sem β) (am : AEnv) (H : AH) (Q : α → AEnv → AH → Prop) : Prop :=
  ∀ (A : Around) (s : Shared) (E : Value → Shared → Prop), c.Ok → AOk A k (envs rest env) → St c (⟨env, am⟩ :: rest) H s.heap → wpAny (Md c) A t (Post c rest env R H Q s) E s
/-- the same of a tree that takes values -/
noncomputable def Wn (c : Cfg) (k : Nat) (rest : List Frm) (env : Env) {α β : Type} (R : Heap → β → α → Prop) (as : List AV) (f : List Value → Sem β) (am : AEnv) (H : AH) (Q : α → AEnv → AH → Prop) : Prop :=
  ∀ (A : Around) (s : Shared) (E : Value → Shared → Prop) (vs : List Value), c.Ok → AOk A k (envs rest env) → St c (⟨env, am⟩ :: rest) H s.heap → VRs s.heap as vs → wpAny (Md c) A (f vs) (Post c rest env R H Q s) E s
noncomputable def W1 (c : Cfg) (k : Nat) (rest : List Frm) (env : Env) {α β : Type} (R : Heap → β → α → Prop) (a : AV) (f : Value → Sem β) (am : AEnv) (H : AH) (Q : α → AEnv → AH → Prop) : Prop :=
  ∀ (A : Around) (s : Shared) (E : Value → Shared → Prop) (v : Value), c.Ok → AOk A k (envs rest env) → St c (⟨env, am⟩ :: rest) H s.heap → VR s.heap a v → wpAny (Md c) A (f v) (Post c rest env R H Q s) E s
noncomputable def W2 (c : Cfg) (k : Nat) (rest : List Frm) (env : Env) {α β : Type} (R : Heap → β → α → Prop) (a b : AV) (f : Value → Value → Sem β) (am : AEnv) (H : AH) (Q : α → AEnv → AH → Prop) : Prop :=
  ∀ (A : Around) (s : Shared) (E : Value → Shared → Prop) (v u : Value), c.Ok → AOk A k (envs rest env) → St c (⟨env, am⟩ :: rest) H s.heap → VR s.heap a v → VR s.heap b u → wpAny (Md c) A (f v u) (Post c rest env R H Q s) E s

noncomputable abbrev RV : Heap → Value → AV → Prop := fun h v a => VR h a v
noncomputable abbrev RL : Heap → List Value → List AV → Prop := fun h v a => VRs h a v
noncomputable abbrev RB : Heap → Bool → Bool → Prop := fun _ v a => v = a
noncomputable abbrev RU : Heap → Unit → Unit → Prop := fun _ _ _ => True
inductive AF where
  | next | brk | cont
  | ret (a : AV)
noncomputable def RF (h : Heap) : Flow → AF → Prop
  | .next, .next => True
  | .brk, .brk => True
  | .cont, .cont => True
  | .ret v, .ret a => VR h a v
  | _, _ => False

theorem RF.four {h : Heap} {fl : Flow} {f : AF} (r : RF h fl f) {P : Flow → AF → Prop} (n : P .next .next) (b : P .brk .brk) (c : P .cont .cont) (t : ∀ v a, VR h a v → P (.ret v) (.ret a)) : P fl f := by
  cases fl <;> cases f <;> first | exact False.elim r | exact n | exact b | exact c | exact t _ _ r
section
variable {c : Cfg} {k : Nat} {rest : List Frm} {env : Env} {α β : Type} {R : Heap → β → α → Prop} {am : AEnv} {H : AH}
theorem W.mono {t : Sem β} {Q Q' : α → AEnv → AH → Prop} (w : W c k rest env R t am H Q) (q : ∀ a m H, Q a m H → Q' a m H) : W c k rest env R t am H Q' :=
  fun A s E o a S => wpAny_mono (w A s E o a S) (fun _ _ p => p.mono q) fun _ _ e => e
/-- one tree, then another one that takes its answer -/
theorem W.step {t : Sem β} {Q : α → AEnv → AH → Prop} {A : Around} {s : Shared} {E : Value → Shared → Prop} {P : β → Shared → Prop} (w : W c k rest env R t am H Q) (o : c.Ok) (a : AOk A k (envs rest env)) (S : St c (⟨env, am⟩ :: rest) H s.heap)
    (q : ∀ v a am' H' h' tk, R h' v a → Ext (envs rest env) H s.heap H' h' → St c (⟨env, am'⟩ :: rest) H' h' → Q a am' H' → P v { s with heap := h', toks := tk }) :
    wpAny (Md c) A t P E s := wpAny_mono (w A s E o a S) (fun v s' p => by
      obtain ⟨a, am', H', h', tk, rfl, r, x, S', z⟩ := p
      exact q v a am' H' h' tk r x S' z) fun _ _ e => e
end
section
variable {c : Cfg} {k : Nat} {rest : List Frm} {env : Env} {α β : Type} {R : Heap → β → α → Prop} {am : AEnv} {H : AH} {h : Heap}

theorem W1.run {a : AV} {H₀ : AH} {f : Value → Sem β} {Q : α → AEnv → AH → Prop} (w : W1 c k rest env R a f am H Q) {A : Around} {s : Shared} {E : Value → Shared → Prop} {v : Value} {tk : Nat} (o : c.Ok) (aa : AOk A k (envs rest env)) (S : St c (⟨env, am⟩ :: rest) H h) (r : VR h a v) (x : Ext (envs rest env) H₀ s.heap H h) :
    wpAny (Md c) A (f v) (Post c rest env R H₀ Q s) E { s with heap := h, toks := tk } :=
  wpAny_mono (w A { s with heap := h, toks := tk } E v o aa S r) (fun _ _ p => Post.after x p) fun _ _ e => e
theorem W2.run {a b : AV} {H₀ : AH} {f : Value → Value → Sem β} {Q : α → AEnv → AH → Prop} (w : W2 c k rest env R a b f am H Q) {A : Around} {s : Shared} {E : Value → Shared → Prop} {v u : Value} {tk : Nat} (o : c.Ok) (aa : AOk A k (envs rest env)) (S : St c (⟨env, am⟩ :: rest) H h) (r : VR h a v) (r' : VR h b u) (x : Ext (envs rest env) H₀ s.heap H h) :
    wpAny (Md c) A (f v u) (Post c rest env R H₀ Q s) E { s with heap := h, toks := tk } :=
  wpAny_mono (w A { s with heap := h, toks := tk } E v u o aa S r r') (fun _ _ p => Post.after x p) fun _ _ e => e
theorem Wn.run {as : List AV} {H₀ : AH} {f : List Value → Sem β} {Q : α → AEnv → AH → Prop} (w : Wn c k rest env R as f am H Q) {A : Around} {s : Shared} {E : Value → Shared → Prop} {vs : List Value} {tk : Nat} (o : c.Ok) (aa : AOk A k (envs rest env)) (S : St c (⟨env, am⟩ :: rest) H h) (r : VRs h as vs) (x : Ext (envs rest env) H₀ s.heap H h) :
    wpAny (Md c) A (f vs) (Post c rest env R H₀ Q s) E { s with heap := h, toks := tk } :=
  wpAny_mono (w A { s with heap := h, toks := tk } E vs o aa S r) (fun _ _ p => Post.after x p) fun _ _ e => e
theorem W.run {H₀ : AH} {t : Sem β} {Q : α → AEnv → AH → Prop} (w : W c k rest env R t am H Q) {A : Around} {s : Shared} {E : Value → Shared → Prop} {tk : Nat} (o : c.Ok) (aa : AOk A k (envs rest env)) (S : St c (⟨env, am⟩ :: rest) H h) (x : Ext (envs rest env) H₀ s.heap H h) :
    wpAny (Md c) A t (Post c rest env R H₀ Q s) E { s with heap := h, toks := tk } :=
  wpAny_mono (w A { s with heap := h, toks := tk } E o aa S) (fun _ _ p => Post.after x p) fun _ _ e => e

theorem W_none {kk pos} {Q : AV → AEnv → AH → Prop} (q : Q .none am H) : W c k rest env RV (eval (.Constant .none kk pos) env) am H Q :=
  fun _ _ _ _ _ S => wpAny_Constant_none (Post.here (by simp [RV, VR]) S q)
theorem W_bool {b kk pos} {Q : AV → AEnv → AH → Prop} (q : Q (.bool b) am H) : W c k rest env RV (eval (.Constant (.bool b) kk pos) env) am H Q :=
  fun _ _ _ _ _ S => wpAny_Constant_bool (Post.here (by simp [RV, VR]) S q)
theorem W_int {i kk pos} {Q : AV → AEnv → AH → Prop} (q : Q (.int i) am H) : W c k rest env RV (eval (.Constant (.int i) kk pos) env) am H Q :=
  fun _ s _ _ _ S => wpAny_Constant_int (Post.intro (h' := s.heap) (by simp [RV, VR]) .refl S q)
theorem W_str {x kk pos} {Q : AV → AEnv → AH → Prop} (q : Q (.str x) am H) : W c k rest env RV (eval (.Constant (.str x) kk pos) env) am H Q :=
  fun _ s _ _ _ S => wpAny_Constant_str (Post.intro (h' := s.heap) (by simp [RV, VR]) .refl S q)

theorem W_local {x pos a} {Q : AV → AEnv → AH → Prop} (hx : am x = some a) (q : Q a am H) (hl : env.kindOf x = some .local := by rfl) (hd : (x == ("__debug__" : Str)) = false := by decide) :
    W c k rest env RV (eval (.Name x pos) env) am H Q := fun _ s _ _ _ S => by
  obtain ⟨mc, n, r⟩ := S.top.ns
  obtain ⟨v, e, rv⟩ := r _ _ hx
  exact wpAny_Name (wpAny_loadName_local S.top.kind hl n e (Post.here rv S q)) hd

theorem St.K {fs : List Frm} (S : St c fs H h) (o : c.Ok) : (KK c.w.params).In h := o.K.keeps S.ground
theorem St.T {fs : List Frm} (S : St c fs H h) (o : c.Ok) : Top vw loose c.mean c.mg c.mb h := o.T.keeps S.ground
theorem St.F (S : St c (⟨env, am⟩ :: rest) H h) : ∃ mc, Fr c.G env.locals h mc ∧ MapR h mc am :=
  let ⟨mc, n, r⟩ := S.top.ns; ⟨mc, ⟨n, S.ground, S.top.above⟩, r⟩

theorem W_glob {x pos} {v : Value} {a : AV} {Q : AV → AEnv → AH → Prop} (e : ∀ P, nsIn (KK P) mainGlobals x = some (some v)) (ha : ∀ h P, (KK P).In h → VR h a v) (q : Q a am H)
    (hg : env.globals = mainGlobals := by rfl) (hx : env.kindOf x = some .globalImplicit := by rfl) (hd : (x == ("__debug__" : Str)) = false := by decide) :
    W c k rest env RV (eval (.Name x pos) env) am H Q := fun _ s _ o _ S =>
  Name_function_global S.top.kind hx (loadGlobal_global (env := env) (by rw [hg]; exact (S.T o).g) (mg_of o.K o.T.g (e _)) (Post.here (ha _ _ (S.K o)) S q)) hd
theorem W_boot {x pos} {v : Value} {Q : AV → AEnv → AH → Prop} (e : ∀ P, nsIn (KK P) mainGlobals x = some none) (hv : bootBuiltins x = some v) (q : Q (.at v) am H) (hn : x ≠ "__name__" := by decide)
    (hg : env.globals = mainGlobals := by rfl) (hb : env.builtins = builtinsNs := by rfl) (hx : env.kindOf x = some .globalImplicit := by rfl) (hd : (x == ("__debug__" : Str)) = false := by decide) :
    W c k rest env RV (eval (.Name x pos) env) am H Q := fun A s E o _ S => by
  have T := topRead_of (S.T o)
  exact Name_function_global S.top.kind hx (loadGlobal_builtin (env := env) (by rw [hg]; exact T.g) (mg_none_of (S.K o) T.g (e _)) (by rw [hb]; exact T.b) ((T.builtins x hn).trans hv) (Post.here (by simp [RV, VR]) S q)) hd

theorem W_Compare {l op r pos} {Q : AV → AEnv → AH → Prop}
    (w : W c k rest env RV (eval l env) am H fun a am H => W c k rest env RV (eval r env) am H fun b am H => W2 c k rest env RV a b (compareOp op) am H Q)
    (hm : behindInMarks op r = false := by with_unfolding_all rfl) : W c k rest env RV (eval (.Compare l [op] [r] pos) env) am H Q := fun A s E o a S =>
  wpAny_Compare1 (w.step o a S fun v b am' H' h' tk r x S' w' => w'.step o a S' fun v₂ b₂ am₂ H₂ h₂ tk₂ r₂ x₂ S₂ w₂ => w₂.run o a S₂ (r.mono x₂.tup) r₂ (x.trans x₂)) hm
theorem W_BinOp {l op r pos} {Q : AV → AEnv → AH → Prop}
    (w : W c k rest env RV (eval l env) am H fun a am H => W c k rest env RV (eval r env) am H fun b am H => W2 c k rest env RV a b (binaryOp op) am H Q) :
    W c k rest env RV (eval (.BinOp l op r pos) env) am H Q := fun A s E o a S =>
  wpAny_BinOp (w.step o a S fun v b am' H' h' tk r x S' w' => w'.step o a S' fun v₂ b₂ am₂ H₂ h₂ tk₂ r₂ x₂ S₂ w₂ => w₂.run o a S₂ (r.mono x₂.tup) r₂ (x.trans x₂))
theorem W_Subscript {value slice pos} {Q : AV → AEnv → AH → Prop}
    (w : W c k rest env RV (eval value env) am H fun a am H => W c k rest env RV (eval slice env) am H fun b am H => W2 c k rest env RV a b (subscriptTail value slice) am H Q) :
    W c k rest env RV (eval (.Subscript value slice pos) env) am H Q := fun A s E o a S =>
  Subscript_ (w.step o a S fun v b am' H' h' tk r x S' w' => w'.step o a S' fun v₂ b₂ am₂ H₂ h₂ tk₂ r₂ x₂ S₂ w₂ => w₂.run o a S₂ (r.mono x₂.tup) r₂ (x.trans x₂))
theorem W_Attribute {value : Expr} {attr : Str} {pos : Pos} {Q : AV → AEnv → AH → Prop}
    (w : W c k rest env RV (eval value env) am H fun a am H => W1 c k rest env RV a (fun v => getAttr v attr true) am H Q)
    (he : eval (.Attribute value attr pos) env = (do
      let o ← eval value env
      standAt pos.atName
      let r ← holding [o] (getAttr o attr true)
      letTemporaryGo value o r
      pure r) := by with_unfolding_all rfl) :
    W c k rest env RV (eval (.Attribute value attr pos) env) am H Q := fun A s E o a S =>
  Attribute_any_ (w.step o a S fun v b am' H' h' tk r x S' w' => w'.run o a S' r x) he
theorem W_UnaryOp {op x pos} {Q : AV → AEnv → AH → Prop} (w : W c k rest env RV (eval x env) am H fun a am H => W1 c k rest env RV a (unaryOp op) am H Q) :
    W c k rest env RV (eval (.UnaryOp op x pos) env) am H Q := fun A s E o a S =>
  wpAny_UnaryOp (w.step o a S fun v b am' H' h' tk r x S' w' => w'.run o a S' r x)

/-- a test: b is known -/
theorem W_IfExp {test body orelse : Expr} {pos : Pos} {Q : AV → AEnv → AH → Prop}
    (w : W c k rest env RB (isTrue test env (eval test env)) am H fun b am H => if b then W c k rest env RV (eval body env) am H Q else W c k rest env RV (eval orelse env) am H Q) :
    W c k rest env RV (eval (.IfExp test body orelse pos) env) am H Q := fun A s E o a S =>
  wpAny_IfExp (w.step o a S fun v b am' H' h' tk r x S' w' => by
    have r' : v = b := r
    subst r'
    cases v with
    | true => exact W.run (t := eval body env) w' o a S' x
    | false => exact W.run (t := eval orelse env) w' o a S' x)
theorem W_If {test body orelse pos} {Q : AF → AEnv → AH → Prop}
    (w : W c k rest env RB (isTrue test env (eval test env)) am H fun b am H => if b then W c k rest env RF (execs body env) am H Q else W c k rest env RF (execs orelse env) am H Q) :
    W c k rest env RF (exec (.If test body orelse pos) env) am H Q := fun A s E o a S =>
  wpAny_If (w.step o a S fun v b am' H' h' tk r x S' w' => by
    have r' : v = b := r
    subst r'
    cases v with
    | true => exact W.run (t := execs body env) w' o a S' x
    | false => exact W.run (t := execs orelse env) w' o a S' x)
theorem W_isTrue_Compare {l op r pos whole} {Q : Bool → AEnv → AH → Prop}
    (w : W c k rest env RV (eval l env) am H fun a am H => W c k rest env RV (eval r env) am H fun b am H => W2 c k rest env RV a b (compareOp op) am H fun d am H => W1 c k rest env RB d truthy am H Q)
    (hm : behindInMarks op r = false := by with_unfolding_all rfl) : W c k rest env RB (isTrue (.Compare l [op] [r] pos) env whole) am H Q := fun A s E o a S =>
  wpAny_isTrue_Compare1 (w.step o a S fun v b am' H' h' tk r x S' w' => w'.step o a S' fun v₂ b₂ am₂ H₂ h₂ tk₂ r₂ x₂ S₂ w₂ =>
    wpAny_mono (w₂ A { s with heap := h₂, toks := tk₂ } E v v₂ o a S₂ (r.mono x₂.tup) r₂) (fun v₃ s₃ p => by
      obtain ⟨d, am₃, H₃, h₃, tk₃, rfl, r₃, x₃, S₃, w₃⟩ := p
      exact w₃.run o a S₃ r₃ ((x.trans x₂).trans x₃)) fun _ _ e => e) hm
theorem W_truthy_bool {b : Bool} {Q : Bool → AEnv → AH → Prop} (q : Q b am H) : W1 c k rest env RB (.bool b) truthy am H Q := fun A s E v o a S r => by
  subst r
  exact wpAny_truthy_bool (Post.here rfl S q)
theorem W_isTrue_value {e : Expr} {whole : Sem Value} {Q : Bool → AEnv → AH → Prop} (w : W c k rest env RV whole am H fun a am H => W1 c k rest env RB a truthy am H Q)
    (he : isTrue e env whole = (do let v ← whole; standAt e.pos; holding [v] (truthy v)) := by rfl) : W c k rest env RB (isTrue e env whole) am H Q := fun A s E o a S =>
  wpAny_isTrue_value (w.step o a S fun v b am' H' h' tk r x S' w' => w'.run o a S' r x) he
theorem W_isTrue_Not {x : Expr} {pos : Pos} {whole : Sem Value} {Q : Bool → AEnv → AH → Prop} (w : W c k rest env RB (isTrue x env (eval x env)) am H fun b am H => Q (!b) am H) :
    W c k rest env RB (isTrue (.UnaryOp .Not x pos) env whole) am H Q := fun A s E o a S =>
  wpAny_isTrue_Not (w.step o a S fun v b am' H' h' tk r x S' q => by
    have r' : v = b := r
    subst r'
    exact Post.intro (R := RB) (a := !v) rfl x S' q)
theorem W_isTrue_BoolOp {op : BoolOp} {values : List Expr} {pos : Pos} {whole : Sem Value} {Q : Bool → AEnv → AH → Prop} (w : W c k rest env RB (allTrue op values env) am H Q) :
    W c k rest env RB (isTrue (.BoolOp op values pos) env whole) am H Q := fun A s E o a S => wpAny_isTrue_BoolOp (w A s E o a S)
theorem W_and_nil {Q : Bool → AEnv → AH → Prop} (q : Q true am H) : W c k rest env RB (allTrue .And [] env) am H Q := fun _ _ _ _ _ S => wpAny_allTrue_And_nil (Post.here rfl S q)
theorem W_or_nil {Q : Bool → AEnv → AH → Prop} (q : Q false am H) : W c k rest env RB (allTrue .Or [] env) am H Q := fun _ _ _ _ _ S => wpAny_allTrue_Or_nil (Post.here rfl S q)
theorem W_and_cons {x : Expr} {r : List Expr} {Q : Bool → AEnv → AH → Prop} (w : W c k rest env RB (isTrue x env (eval x env)) am H fun b am H => if b then W c k rest env RB (allTrue .And r env) am H Q else Q false am H) :
    W c k rest env RB (allTrue .And (x :: r) env) am H Q := fun A s E o a S =>
  wpAny_allTrue_And_cons (w.step o a S fun v b am' H' h' tk r' x S' w' => by
    have r' : v = b := r'
    subst r'
    cases v with
    | true => exact W.run (t := allTrue .And r env) w' o a S' x
    | false => exact Post.intro (R := RB) (a := false) rfl x S' w')
theorem W_or_cons {x : Expr} {r : List Expr} {Q : Bool → AEnv → AH → Prop} (w : W c k rest env RB (isTrue x env (eval x env)) am H fun b am H => if b then Q true am H else W c k rest env RB (allTrue .Or r env) am H Q) :
    W c k rest env RB (allTrue .Or (x :: r) env) am H Q := fun A s E o a S =>
  wpAny_allTrue_Or_cons (w.step o a S fun v b am' H' h' tk r' x S' w' => by
    have r' : v = b := r'
    subst r'
    cases v with
    | true => exact Post.intro (R := RB) (a := true) rfl x S' w'
    | false => exact W.run (t := allTrue .Or r env) w' o a S' x)

/-- items of a display, arguments of a call -/
theorem W_items_nil {pos : Pos} {Q : List AV → AEnv → AH → Prop} (q : Q [] am H) : W c k rest env RL (spliced (backTo pos (starEach [] env))) am H Q :=
  fun _ _ _ _ _ S => wpAny_items_nil (Post.here (by simp [RL, VRs]) S q)
theorem W_items_cons {pos : Pos} {e : Expr} {r : List Expr} {Q : List AV → AEnv → AH → Prop}
    (w : W c k rest env RV (eval e env) am H fun a am H => W c k rest env RL (spliced (backTo pos (starEach r env))) am H fun l am H => Q (a :: l) am H)
    (he : starEach (e :: r) env = (false, eval e env) :: starEach r env := by rfl) : W c k rest env RL (spliced (backTo pos (starEach (e :: r) env))) am H Q := fun A s E o a S =>
  wpAny_items_cons (w.step o a S fun v b am' H' h' tk r x S' w' => w'.step o a S' fun v₂ b₂ am₂ H₂ h₂ tk₂ r₂ x₂ S₂ q =>
    Post.intro (R := RL) (a := b :: b₂) (by exact ⟨v, v₂, rfl, r.mono x₂.tup, r₂⟩) (x.trans x₂) S₂ q) he

theorem W_newTuple {as : List AV} {Q : AV → AEnv → AH → Prop} (q : Q (.tup as) am H) (hz : as.length ≤ 1000000 := by first | decide | (simp only [List.length_cons, List.length_nil]; decide)) : Wn c k rest env RV as newTuple am H Q := fun A s E vs o a S r =>
  wpAny_newObj_type (Post.intro (R := RV) (a := .tup as) (by
    exact ⟨_, vs, rfl, IsTup.new _ _, r.mono (Keeps.push _ _).tup⟩) (Ext.of_keeps (Keeps.push _ _)) (S.keeps (Keeps.push _ _)) q) (by
      show vs.toArray.size ≤ sizeLine
      rw [List.size_toArray, r.length, sizeLine_eq]; lia)
theorem W_Tuple {elts : List Expr} {kk : Nat} {pos : Pos} {Q : AV → AEnv → AH → Prop}
    (w : W c k rest env RL (spliced (backTo pos (starEach elts env))) am H fun as am H => Wn c k rest env RV as newTuple am H Q) : W c k rest env RV (eval (.Tuple elts kk pos) env) am H Q := fun A s E o a S =>
  Tuple_ (w.step o a S fun v b am' H' h' tk r x S' w' => w'.run o a S' r x)
theorem W_newList {as : List AV} {Q : AV → AEnv → AH → Prop} (q : ∀ l, H l = none → Q (.ref l) am (upd H l (.list as))) (hz : as.length ≤ 1000000 := by first | decide | (simp only [List.length_cons, List.length_nil]; decide)) : Wn c k rest env RV as newList am H Q := fun A s E vs o a S r => by
  have hn : s.heap.get? s.heap.objs.size = none := Heap.get?_none_of_le (Nat.le_refl _)
  exact wpAny_newObj_type (Post.intro (R := RV) (a := .ref s.heap.objs.size) (by simp only [VR]) (Ext.of_alloc (Keeps.push _ _) hn) (S.alloc (Keeps.push _ _) hn (o := .list as) ⟨vs, 0, Heap.get?_push_size _ rfl, r.mono (Keeps.push _ _).tup⟩) (q _ (S.fresh hn))) (by
      show vs.toArray.size ≤ sizeLine
      rw [List.size_toArray, r.length, sizeLine_eq]; lia)
theorem W_List {elts : List Expr} {pos : Pos} {Q : AV → AEnv → AH → Prop}
    (w : W c k rest env RL (spliced (backTo pos (starEach elts env))) am H fun as am H => Wn c k rest env RV as newList am H Q) : W c k rest env RV (eval (.List elts pos) env) am H Q := fun A s E o a S =>
  List_ (w.step o a S fun v b am' H' h' tk r x S' w' => w'.run o a S' r x)

/-- a call of a name -/
theorem W_Call {func : Expr} {args : List Expr} {pos : Pos} {Q : AV → AEnv → AH → Prop}
    (w : W c k rest env RV (eval func env) am H fun f am H => W1 c k rest env RV f (fun f => callWith pos f [] (backTo pos (starEach args env)) []) am H Q)
    (he : eval (.Call func args [] pos) env = (do callWith pos (← eval func env) [] (backTo pos (starEach args env)) (backToKw pos (keywordEach [] env))) := by rfl) :
    W c k rest env RV (eval (.Call func args [] pos) env) am H Q := fun A s E o a S =>
  Call_ (w.step o a S fun v b am' H' h' tk r x S' w' => w'.run o a S' r x) he
/-- a def or a class of the text is called -/
theorem W_callWith {f : Value} {e : Expr} {r : List Expr} {pos : Pos} {first : List Value} {fa : List AV} {Q : AV → AEnv → AH → Prop} (hk : ∀ P, keepIn (KK P) f = true) (hfa : ∀ h, VRs h fa first)
    (w : W c k rest env RL (spliced (backTo pos (starEach (e :: r) env))) am H fun as am H => Wn c k rest env RV (fa ++ as) (fun vs => call f vs) am H Q)
    (he : starEach (e :: r) env = (false, eval e env) :: starEach r env := by rfl) (hplain : (backTo pos (starEach r env)).any (·.1) = false := by rfl) :
    W c k rest env RV (callWith pos f first (backTo pos (starEach (e :: r) env)) []) am H Q := fun A s E o a S =>
  callWith_K (S.K o) (hk _) (w.step o a S fun v b am' H' h' tk r x S' w' => ⟨S'.K o, w'.run o a S' ((hfa _).append r) x⟩) he hplain
theorem W_callWith0 {f : Value} {pos : Pos} {first : List Value} {fa : List AV} {Q : AV → AEnv → AH → Prop} (hk : ∀ P, keepIn (KK P) f = true) (hfa : ∀ h, VRs h fa first)
    (w : Wn c k rest env RV fa (fun vs => call f vs) am H Q) :
    W c k rest env RV (callWith pos f first (backTo pos (starEach [] env)) []) am H Q := fun A s E o a S =>
  callWith_K0 (S.K o) (hk _) (by rw [List.append_nil]; exact w A s E first o a S (hfa _))
theorem W_callBuiltin {id : String} {e : Expr} {r : List Expr} {pos : Pos} {Q : AV → AEnv → AH → Prop}
    (w : W c k rest env RL (spliced (backTo pos (starEach (e :: r) env))) am H fun as am H => Wn c k rest env RV as (fun vs => call (.builtin id) vs) am H Q)
    (he : starEach (e :: r) env = (false, eval e env) :: starEach r env := by rfl) (hplain : (backTo pos (starEach r env)).any (·.1) = false := by rfl) :
    W1 c k rest env RV (.at (.builtin id)) (fun f => callWith pos f [] (backTo pos (starEach (e :: r) env)) []) am H Q := fun A s E v o a S rv => by
  subst rv
  exact callWith_builtin1 (w.step o a S fun v b am' H' h' tk r x S' w' => w'.run o a S' r x) he hplain
theorem W_callType {T : String} {e : Expr} {r : List Expr} {pos : Pos} {Q : AV → AEnv → AH → Prop}
    (w : W c k rest env RL (spliced (backTo pos (starEach (e :: r) env))) am H fun as am H => Wn c k rest env RV as (fun vs => call (.type T) vs) am H Q)
    (he : starEach (e :: r) env = (false, eval e env) :: starEach r env := by rfl) (hplain : (backTo pos (starEach r env)).any (·.1) = false := by rfl) :
    W1 c k rest env RV (.at (.type T)) (fun f => callWith pos f [] (backTo pos (starEach (e :: r) env)) []) am H Q := fun A s E v o a S rv => by
  subst rv
  exact PyProof.Rows.callWith_type1 (w.step o a S fun v b am' H' h' tk r x S' w' => w'.run o a S' r x) he hplain
end
section
variable {c : Cfg} {k : Nat} {rest : List Frm} {env : Env} {α β : Type} {R : Heap → β → α → Prop} {am : AEnv} {H : AH} {h : Heap}

theorem W_execs_nil {Q : AF → AEnv → AH → Prop} (q : Q .next am H) : W c k rest env RF (execs [] env) am H Q := fun _ _ _ _ _ S => wpAny_execs_nil (Post.here (a := AF.next) trivial S q)
/-- what follows a statement -/
noncomputable def Then (c : Cfg) (k : Nat) (rest : List Frm) (env : Env) (r : List Stmt) (Q : AF → AEnv → AH → Prop) (f : AF) (am : AEnv) (H : AH) : Prop := match f with
  | .next => W c k rest env RF (execs r env) am H Q
  | f => Q f am H
theorem W_execs_cons {st r} {Q : AF → AEnv → AH → Prop} (w : W c k rest env RF (exec st env) am H (Then c k rest env r Q)) : W c k rest env RF (execs (st :: r) env) am H Q := fun A s E o a S =>
  wpAny_execs_cons (w.step o a S fun v f am' H' h' tk r' x S' q => by
    revert q
    apply RF.four r'
    · intro q; exact W.run (t := execs r env) q o a S' x
    · intro q; exact Post.intro (a := AF.brk) trivial x S' q
    · intro q; exact Post.intro (a := AF.cont) trivial x S' q
    · intro u b r' q; exact Post.intro (a := AF.ret b) r' x S' q)

theorem kind_plain (hk : env.scope.kind = .function) : (env.scope.kind == .class || (env.scope.kind == .module && env.locals != env.globals)) = false := by rw [hk]; rfl
theorem W_store {x : Str} {a : AV} {Q : Unit → AEnv → AH → Prop} (q : Q () (put am x a) H) (hl : env.kindOf x = some .local := by rfl) : W1 c k rest env RU a (storeName env x) am H Q := fun A s E v o aa S r => by
  obtain ⟨mc, n, m⟩ := S.top.ns
  refine wpAny_storeName_local hl n (fun h' n' sb => ?_) (kind_plain S.top.kind)
  obtain ⟨ob, es, ep, g, hd, rr⟩ := n
  have kp : ∀ b o, b ≠ env.locals → s.heap.get? b = some o → h'.get? b = some o := fun b o z e => (sb.2 b z).trans e
  have x' : TupExt s.heap h' := fun a items ⟨o', e, hc, n', d'⟩ => ⟨o', kp _ _ (by
    rintro rfl
    rw [g] at e; cases e
    rw [hd] at d'; cases d') e, hc, n', d'⟩
  refine Post.intro (a := ()) trivial (Ext.of_names (.head _) x' kp) (S.names kp x' ⟨_, n', fun y b e => ?_⟩) q
  unfold put at e
  by_cases z : y = x
  · rw [if_pos z] at e; cases e
    exact ⟨v, if_pos z, r.mono x'⟩
  · rw [if_neg z] at e
    obtain ⟨u, e', ru⟩ := m y b e
    exact ⟨u, (if_neg z).trans e', ru.mono x'⟩
theorem W_Assign_Name {x pos' value pos} {Q : AF → AEnv → AH → Prop} (w : W c k rest env RV (eval value env) am H fun a am H => Q .next (put am x a) H)
    (hl : env.kindOf x = some .local := by rfl) (hs : swapsWith value (some (.Name x pos')) pos.line env = pure false := by rfl) : W c k rest env RF (exec (.Assign [.Name x pos'] value pos) env) am H Q := fun A s E o a S =>
  wpAny_Assign_Name (w.step o a S fun v b am' H' h' tk r x' S' q => wpAny_mono (W1.run (W_store (Q := fun _ am H => Q .next am H) q hl) (A := A) (E := E) (tk := tk) o a S' r x') (fun _ _ p => by
    obtain ⟨_, am₂, H₂, h₂, tk₂, e, _, x₂, S₂, q₂⟩ := p
    exact ⟨.next, am₂, H₂, h₂, tk₂, e, trivial, x₂, S₂, q₂⟩) fun _ _ e => e) hs
theorem W_Return {e pos} {Q : AF → AEnv → AH → Prop} (w : W c k rest env RV (eval e env) am H fun a am H => Q (.ret a) am H) : W c k rest env RF (exec (.Return (some e) pos) env) am H Q := fun A s E o a S =>
  wpAny_Return_some (w.step o a S fun v b am' H' h' tk r x' S' q => Post.intro (a := AF.ret b) r x' S' q)
theorem W_Expr {e pos} {Q : AF → AEnv → AH → Prop} (w : W c k rest env RV (eval e env) am H fun _ am H => Q .next am H) (hi : interactive env = false := by rfl) (hs : swapsWith e none pos.line env = pure false := by rfl) :
    W c k rest env RF (exec (.Expr e pos) env) am H Q := fun A s E o a S =>
  wpAny_Expr_any (w.step o a S fun v b am' H' h' tk r x' S' q => Post.intro (a := AF.next) trivial x' S' q) hi hs
theorem W_AugAssign {x pos' op value pos a} {Q : AF → AEnv → AH → Prop} (hx : am x = some a) (w : W c k rest env RV (eval value env) am H fun b am H => W2 c k rest env RV a b (inplaceOp op) am H fun r am H => Q .next (put am x r) H)
    (hl : env.kindOf x = some .local := by rfl) : W c k rest env RF (exec (.AugAssign (.Name x pos') op value pos) env) am H Q := fun A s E o aa S => by
  obtain ⟨mc, n, r⟩ := S.top.ns
  obtain ⟨v, e, rv⟩ := r _ _ hx
  exact wpAny_AugAssign_Name (wpAny_loadName_local S.top.kind hl n e (w.step o aa S fun v₂ b am' H' h' tk r₂ x' S' w' =>
    wpAny_mono (w'.run (A := A) (E := E) (tk := tk) o aa S' (rv.mono x'.tup) r₂ x') (fun v₃ s₃ p => by
      obtain ⟨d, am₃, H₃, h₃, tk₃, rfl, r₃, x₃, S₃, q₃⟩ := p
      refine wpAny_mono (W1.run (W_store (Q := fun _ am H => Q .next am H) q₃ hl) (A := A) (E := E) (tk := tk₃) o aa S₃ r₃ x₃) (fun _ _ p => ?_) fun _ _ e => e
      obtain ⟨_, am₂, H₂, h₂, tk₂, e, _, x₂, S₂, q₂⟩ := p
      exact ⟨.next, am₂, H₂, h₂, tk₂, e, trivial, x₂, S₂, q₂⟩) fun _ _ e => e))
theorem W_Assign_Attribute {ob attr pos' value pos} {Q : AF → AEnv → AH → Prop}
    (w : W c k rest env RV (eval value env) am H fun a am H => W c k rest env RV (eval ob env) am H fun b am H => W2 c k rest env RU a b (fun v o => setAttr o attr v) am H fun _ am H => Q .next am H)
    (hs : swapsWith value (some (.Attribute ob attr pos')) pos.line env = pure false := by rfl) : W c k rest env RF (exec (.Assign [.Attribute ob attr pos'] value pos) env) am H Q := fun A s E o a S =>
  plainObj_wpAny_Assign_Attribute (w.step o a S fun v b am' H' h' tk r x S' w' => w'.step o a S' fun v₂ b₂ am₂ H₂ h₂ tk₂ r₂ x₂ S₂ w₂ =>
    wpAny_mono (W2.run (H₀ := H) (s := s) w₂ (A := A) (E := E) (tk := tk₂) o a S₂ (r.mono x₂.tup) r₂ (x.trans x₂)) (fun _ _ p => by
      obtain ⟨_, am₃, H₃, h₃, tk₃, e, _, x₃, S₃, q₃⟩ := p
      exact ⟨.next, am₃, H₃, h₃, tk₃, e, trivial, x₃, S₃, q₃⟩) fun _ _ e => e) hs
/-- o[i] = v; as the machine does it: v, o, i -/
noncomputable def W3 (c : Cfg) (k : Nat) (rest : List Frm) (env : Env) {α β : Type} (R : Heap → β → α → Prop) (a b d : AV) (f : Value → Value → Value → Sem β) (am : AEnv) (H : AH) (Q : α → AEnv → AH → Prop) : Prop :=
  ∀ (A : Around) (s : Shared) (E : Value → Shared → Prop) (v u w : Value), c.Ok → AOk A k (envs rest env) → St c (⟨env, am⟩ :: rest) H s.heap → VR s.heap a v → VR s.heap b u → VR s.heap d w → wpAny (Md c) A (f v u w) (Post c rest env R H Q s) E s
theorem W3.run {a b d : AV} {H₀ : AH} {f : Value → Value → Value → Sem β} {Q : α → AEnv → AH → Prop} (w : W3 c k rest env R a b d f am H Q) {A : Around} {s : Shared} {E : Value → Shared → Prop} {v u z : Value} {tk : Nat} (o : c.Ok) (aa : AOk A k (envs rest env)) (S : St c (⟨env, am⟩ :: rest) H h) (r : VR h a v) (r' : VR h b u) (r'' : VR h d z) (x : Ext (envs rest env) H₀ s.heap H h) :
    wpAny (Md c) A (f v u z) (Post c rest env R H₀ Q s) E { s with heap := h, toks := tk } :=
  wpAny_mono (w A { s with heap := h, toks := tk } E v u z o aa S r r' r'') (fun _ _ p => Post.after x p) fun _ _ e => e
theorem W_Assign_Subscript {ob i pos' value pos} {Q : AF → AEnv → AH → Prop}
    (w : W c k rest env RV (eval value env) am H fun a am H => W c k rest env RV (eval ob env) am H fun b am H => W c k rest env RV (eval i env) am H fun d am H => W3 c k rest env RU a b d (fun v o i => setItem o i v) am H fun _ am H => Q .next am H)
    (hs : swapsWith value (some (.Subscript ob i pos')) pos.line env = pure false := by rfl) : W c k rest env RF (exec (.Assign [.Subscript ob i pos'] value pos) env) am H Q := fun A s E o a S =>
  wpAny_Assign_Subscript (w.step o a S fun v b am' H' h' tk r x S' w' => w'.step o a S' fun v₂ b₂ am₂ H₂ h₂ tk₂ r₂ x₂ S₂ w₂ => w₂.step o a S₂ fun v₃ b₃ am₃ H₃ h₃ tk₃ r₃ x₃ S₃ w₃ =>
    wpAny_mono (W3.run (H₀ := H) (s := s) w₃ (A := A) (E := E) (tk := tk₃) o a S₃ ((r.mono x₂.tup).mono x₃.tup) (r₂.mono x₃.tup) r₃ ((x.trans x₂).trans x₃)) (fun _ _ p => by
      obtain ⟨_, am₃, H₃, h₃, tk₃, e, _, x₃, S₃, q₃⟩ := p
      exact ⟨.next, am₃, H₃, h₃, tk₃, e, trivial, x₃, S₃, q₃⟩) fun _ _ e => e) hs

/-- names given in order -/
noncomputable def putsR (am : AEnv) : List Str → List AV → AEnv
  | x :: xs, a :: as => putsR (put am x a) xs as
  | _, _ => am
theorem W_inOrder {Q : Unit → AEnv → AH → Prop} (xs : List Str) : ∀ (as : List AV) (am : AEnv), Q () (putsR am xs as) H → (∀ x ∈ xs, env.kindOf x = some .local) → Wn c k rest env RU as (fun vs => assignInOrder (xs.map fun n => bindName env n) vs) am H Q := by
  induction xs with
  | nil =>
    intro as am q _ A s E vs o a S r
    show wpAny _ _ (pure ()) _ _ _
    cases vs <;> exact wpAny_pure (Post.here (a := ()) trivial S (by cases as <;> exact q))
  | cons x xs ih =>
    intro as am q hl A s E vs o a S r
    cases as with
    | nil =>
      subst r
      show wpAny _ _ (pure ()) _ _ _
      exact wpAny_pure (Post.here (a := ()) trivial S q)
    | cons b as =>
      obtain ⟨v, vs', rfl, r1, r2⟩ := r
      show wpAny _ _ (do holding vs' (bindName env x v); assignInOrder (xs.map fun n => bindName env n) vs') _ _ _
      refine wpAny_bind (wpAny_holding (wpAny_bindName (wpAny_mono (W_store (Q := fun _ am' H' => am' = put am x b ∧ H' = H) ⟨rfl, rfl⟩ (hl x (.head _)) A s E v o a S r1) (fun _ s' p => ?_) fun _ _ e => e)))
      obtain ⟨_, am', H', h', tk, rfl, _, x', S', rfl, rfl⟩ := p
      exact Wn.run (ih as _ q fun y m => hl y (.tail _ m)) o a S' (r2.mono x'.tup) x'

end
theorem cps_beq (x y : Str) : (x.cps.toList == y.cps.toList) = decide (x = y) := by
  by_cases e : x = y
  · subst e; simp
  · have : x.cps.toList ≠ y.cps.toList := fun z => e (by cases x; cases y; simp only [Str.mk.injEq]; exact Array.toList_inj.mp z)
    rw [decide_eq_false e]
    exact beq_eq_false_iff_ne.mpr this
theorem cps_bne (x y : Str) : (x.cps.toList != y.cps.toList) = !decide (x = y) := by rw [bne, cps_beq]
section
variable {c : Cfg} {k : Nat} {rest : List Frm} {env : Env} {α β : Type} {R : Heap → β → α → Prop} {am : AEnv} {H : AH} {h : Heap}

theorem W_eq_str {x y : Str} {Q : AV → AEnv → AH → Prop} (q : Q (.bool (decide (x = y))) am H) : W2 c k rest env RV (.str x) (.str y) (compareOp .Eq) am H Q := fun A s E v u o a S r r' => by
  obtain ⟨t, rfl⟩ := r; obtain ⟨t', rfl⟩ := r'
  exact P.eq_str (Post.here (a := .bool (decide (x = y))) (by simp only [RV, VR, cps_beq]) S q)
theorem W_ne_str {x y : Str} {Q : AV → AEnv → AH → Prop} (q : Q (.bool (!decide (x = y))) am H) : W2 c k rest env RV (.str x) (.str y) (compareOp .NotEq) am H Q := fun A s E v u o a S r r' => by
  obtain ⟨t, rfl⟩ := r; obtain ⟨t', rfl⟩ := r'
  exact P.ne_str (Post.here (a := .bool (!decide (x = y))) (by simp only [RV, VR, cps_bne]) S q)
theorem W_eq_int {x y : Int} {Q : AV → AEnv → AH → Prop} (q : Q (.bool (decide (x = y))) am H) : W2 c k rest env RV (.int x) (.int y) (compareOp .Eq) am H Q := fun A s E v u o a S r r' => by
  obtain ⟨t, rfl⟩ := r; obtain ⟨t', rfl⟩ := r'
  exact P.eq_int (Post.here (a := .bool (decide (x = y))) (by simp only [RV, VR]; rfl) S q)
theorem W_gt_int {x y : Int} {Q : AV → AEnv → AH → Prop} (q : Q (.bool (decide (y < x))) am H) : W2 c k rest env RV (.int x) (.int y) (compareOp .Gt) am H Q := fun A s E v u o a S r r' => by
  obtain ⟨t, rfl⟩ := r; obtain ⟨t', rfl⟩ := r'
  exact P.gt_int (Post.here (a := .bool (decide (y < x))) (by simp only [RV, VR]) S q)
theorem W_lt_int {x y : Int} {Q : AV → AEnv → AH → Prop} (q : Q (.bool (decide (x < y))) am H) : W2 c k rest env RV (.int x) (.int y) (compareOp .Lt) am H Q := fun A s E v u o a S r r' => by
  obtain ⟨t, rfl⟩ := r; obtain ⟨t', rfl⟩ := r'
  exact P.lt_int (Post.here (a := .bool (decide (x < y))) (by simp only [RV, VR]) S q)
theorem W_ge_int {x y : Int} {Q : AV → AEnv → AH → Prop} (q : Q (.bool (decide (y ≤ x))) am H) : W2 c k rest env RV (.int x) (.int y) (compareOp .GtE) am H Q := fun A s E v u o a S r r' => by
  obtain ⟨t, rfl⟩ := r; obtain ⟨t', rfl⟩ := r'
  exact P.ge_int (Post.here (a := .bool (decide (y ≤ x))) (by simp only [RV, VR]) S q)
theorem VR.noneb {h : Heap} {a : AV} {v : Value} (r : VR h a v) : (v == .none) = (match a with | .at .none => true | _ => false) := by
  cases a with
  | «at» u => subst r; cases v <;> rfl
  | int i => obtain ⟨t, rfl⟩ := r; rfl
  | str i => obtain ⟨t, rfl⟩ := r; rfl
  | tup i => obtain ⟨t, _, rfl, _⟩ := r; rfl
noncomputable def isNoneA : AV → Bool
  | .at .none => true
  | _ => false
theorem W_is_none {x : AV} {Q : AV → AEnv → AH → Prop} (q : Q (.bool (isNoneA x)) am H) : W2 c k rest env RV x .none (compareOp .Is) am H Q := fun A s E v u o a S r r' => by
  subst r'
  exact is_none (Post.here (a := .bool (isNoneA x)) (by simp only [RV, VR]; rw [r.noneb]; cases x with | «at» u => cases u <;> rfl | _ => rfl) S q)
theorem W_isNot_none {x : AV} {Q : AV → AEnv → AH → Prop} (q : Q (.bool (!isNoneA x)) am H) : W2 c k rest env RV x .none (compareOp .IsNot) am H Q := fun A s E v u o a S r r' => by
  subst r'
  exact isNot_none (Post.here (a := .bool (!isNoneA x)) (by simp only [RV, VR]; rw [r.noneb]; cases x with | «at» u => cases u <;> rfl | _ => rfl) S q)

theorem W_add_int {x y : Int} {Q : AV → AEnv → AH → Prop} (q : Q (.int (x + y)) am H) : W2 c k rest env RV (.int x) (.int y) (binaryOp .Add) am H Q := fun A s E v u o a S r r' => by
  obtain ⟨t, rfl⟩ := r; obtain ⟨t', rfl⟩ := r'
  exact P.add_int (Post.intro (a := .int (x + y)) (h' := s.heap) (by simp [RV, VR]) .refl S q)
theorem W_iadd_int {x y : Int} {Q : AV → AEnv → AH → Prop} (q : Q (.int (x + y)) am H) : W2 c k rest env RV (.int x) (.int y) (inplaceOp .Add) am H Q := fun A s E v u o a S r r' => by
  obtain ⟨t, rfl⟩ := r; obtain ⟨t', rfl⟩ := r'
  exact P.iadd_int (Post.intro (a := .int (x + y)) (h' := s.heap) (by simp [RV, VR]) .refl S q)
theorem W_sub_int {x y : Int} {Q : AV → AEnv → AH → Prop} (q : Q (.int (x - y)) am H) : W2 c k rest env RV (.int x) (.int y) (binaryOp .Sub) am H Q := fun A s E v u o a S r r' => by
  obtain ⟨t, rfl⟩ := r; obtain ⟨t', rfl⟩ := r'
  exact P.sub_int (Post.intro (a := .int (x - y)) (h' := s.heap) (by simp [RV, VR]) .refl S q)
theorem str_nil {x : Str} (h : x.length = 0) : x.cps = #[] := Array.eq_empty_of_size_eq_zero h
theorem W_add_str {x y : Str} {Q : AV → AEnv → AH → Prop} (q : Q (.str (x ++ y)) am H) (hz : x.length + y.length ≤ 100000) : W2 c k rest env RV (.str x) (.str y) (binaryOp .Add) am H Q := fun A s E v u o a S r r' => by
  obtain ⟨t, rfl⟩ := r; obtain ⟨t', rfl⟩ := r'
  refine P.add_str ?_
  by_cases e : x.length == 0
  · rw [if_pos e]
    have z : x ++ y = y := by
      have := str_nil (beq_iff_eq.mp e)
      cases x; cases y; simp only at this; subst this
      show Str.mk _ = _
      simp
    exact Post.here (a := .str (x ++ y)) (by rw [z]; simp [RV, VR]) S q
  · rw [if_neg e]
    by_cases e' : y.length == 0
    · rw [if_pos e']
      have z : x ++ y = x := by
        have := str_nil (beq_iff_eq.mp e')
        cases x; cases y; simp only at this; subst this
        show Str.mk _ = _
        simp
      exact Post.here (a := .str (x ++ y)) (by rw [z]; simp [RV, VR]) S q
    · rw [if_neg e']
      refine ⟨?_, Post.intro (a := .str (x ++ y)) (h' := s.heap) (by simp [RV, VR]) .refl S q⟩
      have : (x ++ y).length = x.length + y.length := by
        show (x.cps ++ y.cps).size = _
        rw [Array.size_append]; rfl
      rw [this, sizeLine_eq]; lia

/-- an item of a tuple at a written place -/
theorem W_item_tup {as : List AV} {i : Int} {j : Nat} {x : AV} {value slice : Expr} {Q : AV → AEnv → AH → Prop} (hj : seqIndex? i as.length = some j) (hx : as[j]? = some x) (q : Q x am H) (hlo : -(2 ^ 63) ≤ i := by decide) (hhi : i < 2 ^ 63 := by decide)
    (hs : ∀ t u, subscripted slice false (.ref t) (.int i u) = operate [.ref t, .int i u] (getItem (.ref t) (.int i u)) := by intro _ _; with_unfolding_all rfl) :
    W2 c k rest env RV (.tup as) (.int i) (subscriptTail value slice) am H Q := fun A s E v u o a S r r' => by
  obtain ⟨t, vs, rfl, ht, rv⟩ := r; obtain ⟨t', rfl⟩ := r'
  obtain ⟨y, hy, ry⟩ := rv.get hx
  exact item_tupleT ht hlo hhi (by rw [rv.length]; exact hj) hy (Post.here ry S q) (hs _ _)
theorem seqIndex_in {i : Int} {as : List AV} {x : AV} (h0 : 0 ≤ i) (hx : as[i.toNat]? = some x) : seqIndex? i as.length = some i.toNat := by
  obtain ⟨hlt, _⟩ := List.getElem?_eq_some_iff.mp hx
  unfold seqIndex?
  have : (0 ≤ i ∧ i < (as.length : Int)) := ⟨h0, by lia⟩
  simp only [Int.not_lt.mpr h0, if_false, this.1, this.2, decide_true, Bool.and_self, if_true]
theorem W_item {as : List AV} {i : Int} {x : AV} {value slice : Expr} {Q : AV → AEnv → AH → Prop} (hx : as[i.toNat]? = some x) (q : Q x am H) (h0 : 0 ≤ i := by decide) (hhi : i < 2 ^ 63 := by decide)
    (hs : ∀ t u, subscripted slice false (.ref t) (.int i u) = operate [.ref t, .int i u] (getItem (.ref t) (.int i u)) := by intro _ _; with_unfolding_all rfl) :
    W2 c k rest env RV (.tup as) (.int i) (subscriptTail value slice) am H Q := W_item_tup (seqIndex_in h0 hx) hx q (by lia) hhi hs
/-- an item of a list -/
theorem W_item_list {l : Addr} {as : List AV} {i : Int} {x : AV} {value slice : Expr} {Q : AV → AEnv → AH → Prop} (hl : H l = some (.list as)) (h0 : 0 ≤ i) (hx : as[i.toNat]? = some x) (q : Q x am H) (hhi : i < 2 ^ 63)
    (hs : ∀ t u, subscripted slice false (.ref t) (.int i u) = operate [.ref t, .int i u] (getItem (.ref t) (.int i u)) := by intro _ _; with_unfolding_all rfl) :
    W2 c k rest env RV (.ref l) (.int i) (subscriptTail value slice) am H Q := fun A s E v u o a S r r' => by
  subst r; obtain ⟨t', rfl⟩ := r'
  refine hide fun P' hP' => ?_
  obtain ⟨_, _, vs, n, e, rv⟩ := S.objs _ _ hl
  refine hP' ?_
  obtain ⟨y, hy, ry⟩ := rv.get hx
  have L : s.heap.IsList l vs.toArray := ⟨_, e, rfl, n, rfl⟩
  exact tail_any L.typeIs slot_list_getitem.lookup (wpAny_getItem_list L h0 hhi (by simpa using hy) (Post.here ry S q)) (hs _ _)

noncomputable def valA (l : List (Str × AV)) (x : Str) : Option AV := (l.find? fun p => decide (p.1 = x)).map (·.2)
theorem valA_some {h : Heap} {l : List (Str × AV)} {kvs : List (Str × Value)} {x : Str} (r : All2 (PairR h) l kvs) : (∀ a, valA l x = some a → ∃ v, valueAt kvs x = some v ∧ VR h a v) ∧ (valA l x = none → valueAt kvs x = none) := by
  induction r with
  | nil => exact ⟨fun a e => by simp [valA] at e, fun _ => rfl⟩
  | @cons p q l r hpq _ ih =>
    obtain ⟨e1, e2⟩ := hpq
    unfold valA valueAt at *
    by_cases z : p.1 = x
    · have z' : q.1 = x := e1 ▸ z
      simp only [List.find?_cons, z, z', decide_true, Option.map_some]
      exact ⟨fun a e => by cases e; exact ⟨_, rfl, e2⟩, fun e => by cases e⟩
    · have z' : ¬ q.1 = x := e1 ▸ z
      simp only [List.find?_cons, z, z', decide_false]
      exact ih
theorem W_item_dict {d : Addr} {l : List (Str × AV)} {x : Str} {b : AV} {value slice : Expr} {Q : AV → AEnv → AH → Prop} (hd : H d = some (.dict l)) (hx : valA l x = some b) (q : Q b am H)
    (hs : ∀ t u, subscripted slice false (.ref t) (.str x u) = operate [.ref t, .str x u] (getItem (.ref t) (.str x u)) := by intro _ _; with_unfolding_all rfl) :
    W2 c k rest env RV (.ref d) (.str x) (subscriptTail value slice) am H Q := fun A s E v u o a S r r' => by
  subst r; obtain ⟨t', rfl⟩ := r'
  refine hide fun P' hP' => ?_
  obtain ⟨_, _, m, kvs, D, rv⟩ := S.objs _ _ hd
  refine hP' ?_
  obtain ⟨y, hy, ry⟩ := (valA_some (x := x) rv).1 _ hx
  have hm := D.mapOf
  exact tail_any hm.typeIs slot_dict_getitem.lookup (wpAny_getItem_of (strKind_is pw c.w x t') hm hy (Post.intro (h' := s.heap) ry .refl S q)) (hs _ _)
theorem W_in_dict {d : Addr} {l : List (Str × AV)} {x : Str} {Q : AV → AEnv → AH → Prop} (hd : H d = some (.dict l)) (q : Q (.bool (valA l x).isSome) am H) :
    W2 c k rest env RV (.str x) (.ref d) (compareOp .In) am H Q := fun A s E v u o a S r r' => by
  subst r'; obtain ⟨t', rfl⟩ := r
  refine hide fun P' hP' => ?_
  obtain ⟨_, _, m, kvs, D, rv⟩ := S.objs _ _ hd
  refine hP' ?_
  have z := valA_some (x := x) rv
  refine wpAny_in_of (strKind_is pw c.w x t') m D.mapOf (Post.intro (h' := s.heap) (a := .bool (valA l x).isSome) ?_ .refl S q)
  cases e : valA l x with
  | none => simp only [RV, VR, z.2 e, Option.isSome]
  | some b => obtain ⟨y, hy, _⟩ := z.1 b e; simp only [RV, VR, hy, Option.isSome]
theorem W_notIn_dict {d : Addr} {l : List (Str × AV)} {x : Str} {Q : AV → AEnv → AH → Prop} (hd : H d = some (.dict l)) (q : Q (.bool (!(valA l x).isSome)) am H) :
    W2 c k rest env RV (.str x) (.ref d) (compareOp .NotIn) am H Q := fun A s E v u o a S r r' => by
  subst r'; obtain ⟨t', rfl⟩ := r
  refine hide fun P' hP' => ?_
  obtain ⟨_, _, m, kvs, D, rv⟩ := S.objs _ _ hd
  refine hP' ?_
  have z := valA_some (x := x) rv
  refine wpAny_notIn_of (strKind_is pw c.w x t') m D.mapOf (Post.intro (h' := s.heap) (a := .bool (!(valA l x).isSome)) ?_ .refl S q)
  cases e : valA l x with
  | none => simp only [RV, VR, z.2 e, Option.isSome]
  | some b => obtain ⟨y, hy, _⟩ := z.1 b e; simp only [RV, VR, hy, Option.isSome]
noncomputable def storeA (l : List (Str × AV)) (x : Str) (a : AV) : List (Str × AV) := if l.any (fun p => decide (p.1 = x)) then l.map (fun p => if p.1 = x then (p.1, a) else p) else l ++ [(x, a)]
theorem All2.len {α β : Type} {R : α → β → Prop} {l : List α} {r : List β} (x : All2 R l r) : r.length = l.length := by induction x with | nil => rfl | cons _ _ ih => simp [ih]
theorem All2.append {α β : Type} {R : α → β → Prop} {l l' : List α} {r r' : List β} (x : All2 R l r) (y : All2 R l' r') : All2 R (l ++ l') (r ++ r') := by induction x with | nil => exact y | cons p _ ih => exact .cons p ih
theorem storeA_R {h : Heap} {l : List (Str × AV)} {kvs : List (Str × Value)} {x : Str} {a : AV} {v : Value} (r : All2 (PairR h) l kvs) (ra : VR h a v) : All2 (PairR h) (storeA l x a) (stored kvs x v) := by
  have e : l.any (fun p => decide (p.1 = x)) = kvs.any (fun p => decide (p.1 = x)) := by
    induction r with
    | nil => rfl
    | cons p _ ih => simp only [List.any_cons, ih, p.1]
  unfold storeA stored
  rw [e]
  by_cases z : kvs.any (fun p => decide (p.1 = x)) = true
  · rw [if_pos z, if_pos z]
    clear z e
    induction r with
    | nil => exact .nil
    | @cons p q l r hpq _ ih =>
      obtain ⟨e1, e2⟩ := hpq
      refine .cons ?_ ih
      by_cases w : p.1 = x
      · dsimp only; rw [if_pos w, if_pos (e1 ▸ w)]; exact ⟨e1, ra⟩
      · dsimp only; rw [if_neg w, if_neg (e1 ▸ w)]; exact ⟨e1, e2⟩
  · rw [if_neg z, if_neg z]
    exact r.append (.cons ⟨rfl, ra⟩ .nil)
theorem W_setItem_dict {d : Addr} {l : List (Str × AV)} {x : Str} {b : AV} {Q : Unit → AEnv → AH → Prop} (hd : H d = some (.dict l)) (hz : l.length ≤ 1000000) (q : Q () am (upd H d (.dict (storeA l x b)))) :
    W3 c k rest env RU b (.ref d) (.str x) (fun v o i => setItem o i v) am H Q := fun A s E v u w o a S r r' r'' => by
  subst r'; obtain ⟨t', rfl⟩ := r''
  refine hide fun P' hP' => ?_
  obtain ⟨_, _, m, kvs, D, rv⟩ := S.objs _ _ hd
  refine hP' ?_
  refine hide fun P' hP' => ?_
  obtain ⟨ob, es, ep, e, ex, dd, _⟩ := id D
  refine hP' ?_
  refine wpAny_setItem_pairs (strKind_is pw c.w x t') D (fun h' D' sb => ?_) (by rw [rv.len, sizeLine_eq]; lia)
  have kp : ∀ b o, b ≠ d → s.heap.get? b = some o → h'.get? b = some o := fun b o z e => (sb.2 b z).trans e
  have x' : TupExt s.heap h' := tupExt_of e (by rw [ex.1]; simp) kp
  exact Post.intro (a := ()) trivial (Ext.of_upd hd x' kp) (S.upd hd kp x' (o' := .dict (storeA l x b)) ⟨m, _, D', storeA_R (rv.mono fun _ _ z => z.mono x') (r.mono x')⟩) q

theorem W_append {l : Addr} {as : List AV} {b : AV} {Q : AV → AEnv → AH → Prop} (hl : H l = some (.list as)) (hz : as.length ≤ 1000000) (q : Q .none am (upd H l (.list (as ++ [b])))) :
    Wn c k rest env RV [.ref l, b] (fun vs => call (.builtin "list.append") vs) am H Q := fun A s E vs o a S r => by
  obtain ⟨_, _, rfl, rfl, v, _, rfl, rb, rfl⟩ := r
  refine hide fun P' hP' => ?_
  obtain ⟨_, _, xs, n, e, rv⟩ := S.objs _ _ hl
  refine hP' ?_
  refine append_at e (fun h' sb e' => ?_) (by rw [List.size_toArray, rv.length, sizeLine_eq]; lia)
  have kp : ∀ b o, b ≠ l → s.heap.get? b = some o → h'.get? b = some o := fun b o z e => (sb.2 b z).trans e
  have x' : TupExt s.heap h' := tupExt_of e (by simp) kp
  refine Post.intro (a := .none) (tk := s.toks) (by simp only [VR]) (Ext.of_upd hl x' kp) (S.upd hl kp x' (o' := .list (as ++ [b])) ⟨xs ++ [v], n + 1, by rw [e']; simp [W.listOf], ?_⟩) q
  exact (rv.mono x').append (by exact ⟨v, [], rfl, rb.mono x', rfl⟩)
end
/-- all that stands in the heap beside the ground and one frame -/
noncomputable def allN (G h : Heap) (L : Addr) : List (Addr × Obj) := (List.range h.objs.size).filterMap fun a => if a = L then none else match G.get? a with
  | some _ => none
  | none => (h.get? a).map fun o => (a, o)
theorem mem_allN {G h : Heap} {L a : Addr} {o : Obj} : (a, o) ∈ allN G h L ↔ h.get? a = some o ∧ a ≠ L ∧ G.get? a = none := by
  unfold allN
  rw [List.mem_filterMap]
  constructor
  · rintro ⟨b, hb, e⟩
    by_cases z : b = L
    · rw [if_pos z] at e; cases e
    · rw [if_neg z] at e
      cases g : G.get? b with
      | some _ => rw [g] at e; cases e
      | none =>
        rw [g] at e
        obtain ⟨o', ho, e'⟩ := Option.map_eq_some_iff.mp e
        cases e'
        exact ⟨ho, z, g⟩
  · rintro ⟨e, z, g⟩
    exact ⟨a, List.mem_range.mpr (Heap.lt_size e), by rw [if_neg z, g, e]; rfl⟩
theorem allN_nodup (G h : Heap) (L : Addr) : ((allN G h L).map (·.1)).Nodup := by
  unfold allN
  rw [List.map_filterMap]
  refine List.Pairwise.filterMap (R := (· ≠ ·)) (S := (· ≠ ·)) _ (fun a a' n b h1 b' h2 => ?_) List.nodup_range
  intro z
  refine n ?_
  subst z
  have key : ∀ {x : Nat}, Option.map (fun p : Addr × Obj => p.1) (if x = L then none else match G.get? x with | some _ => none | none => (h.get? x).map fun o => (x, o)) = some b → b = x := by
    intro x hx
    split at hx
    · cases hx
    · split at hx
      · cases hx
      · cases q : h.get? x with
        | none => rw [q] at hx; cases hx
        | some o => rw [q] at hx; simpa using hx.symm
  exact (key h1).symm.trans (key h2)
theorem upd_of_mem {d : Addr} {o o' : Obj} : ∀ {l : List (Addr × Obj)}, (l.map (·.1)).Nodup → (d, o) ∈ l → ∃ l', Upd d o o' l l' ∧ (d, o') ∈ l' ∧ ∀ p ∈ l, p.1 ≠ d → p ∈ l'
  | p :: l, nd, m => by
    rw [List.map_cons, List.nodup_cons] at nd
    rcases List.mem_cons.mp m with rfl | m
    · exact ⟨(d, o') :: l, .head fun q hq z => nd.1 (List.mem_map.mpr ⟨q, hq, z⟩), .head _, fun q hq z => by
        rcases List.mem_cons.mp hq with rfl | hq
        · exact absurd rfl z
        · exact .tail _ hq⟩
    · obtain ⟨l', u, a, b⟩ := upd_of_mem (o' := o') nd.2 m
      refine ⟨p :: l', .tail (fun z => nd.1 (List.mem_map.mpr ⟨_, m, z.symm⟩)) u, .tail _ a, fun q hq z => ?_⟩
      rcases List.mem_cons.mp hq with rfl | hq
      · exact .head _
      · exact .tail _ (b q hq z)

noncomputable def AV.plain : AV → Bool
  | .at (.builtin _) => false
  | _ => true
theorem VR.handed {h : Heap} {a : AV} {v : Value} (r : VR h a v) (p : a.plain = true) : handedIn v = true := by
  cases a with
  | «at» u => subst r; cases v <;> first | rfl | cases p
  | int i => obtain ⟨t, rfl⟩ := r; rfl
  | str i => obtain ⟨t, rfl⟩ := r; rfl
  | tup i => obtain ⟨t, _, rfl, _⟩ := r; rfl

theorem isStr_str (x y : Str) (t : Tok) : (Value.str y t).isStr x = decide (y = x) := by
  show (y == x) = _ <;> first | (exact Bool.beq_eq_decide_eq ..) | (by_cases e : y = x <;> simp [e])
theorem getL_R {h : Heap} {fs : List (Str × AV)} {es : List DictEntry} {x : Str} (r : All2 (EntR h) fs es) : (∀ a, valA fs x = some a → ∃ v, getL x es = some (some v) ∧ VR h a v) ∧ (valA fs x = none → getL x es = some none) := by
  have noref : es.any (·.refKey) = false := by
    induction r with
    | nil => rfl
    | cons p _ ih =>
      obtain ⟨⟨t, e⟩, _⟩ := p
      rw [List.any_cons, ih]
      simp [DictEntry.refKey, e]
  have main : (∀ a, valA fs x = some a → ∃ e, es.find? (·.key.isStr x) = some e ∧ VR h a e.val) ∧ (valA fs x = none → es.find? (·.key.isStr x) = none) := by
    clear noref
    induction r with
    | nil => exact ⟨fun a e => by simp [valA] at e, fun _ => rfl⟩
    | @cons p q l r hpq _ ih =>
      obtain ⟨⟨t, e1⟩, e2⟩ := hpq
      unfold valA at *
      by_cases z : p.1 = x
      · have z' : q.key.isStr x = true := by rw [e1, isStr_str]; exact decide_eq_true z
        simp only [List.find?_cons, z, z', decide_true, Option.map_some]
        exact ⟨fun a e => by cases e; exact ⟨_, rfl, e2⟩, fun e => by cases e⟩
      · have z' : q.key.isStr x = false := by rw [e1, isStr_str]; exact decide_eq_false z
        simp only [List.find?_cons, z, z', decide_false]
        exact ih
  unfold getL
  refine ⟨fun a e => ?_, fun e => ?_⟩
  · obtain ⟨en, f, ra⟩ := main.1 a e
    exact ⟨en.val, by rw [f], ra⟩
  · rw [main.2 e]
    dsimp only
    rw [noref]; rfl
theorem putL_R {h : Heap} {fs : List (Str × AV)} {es : List DictEntry} {x : Str} {a : AV} {v : Value} {hs : Int} {t : Tok} (r : All2 (EntR h) fs es) (ra : VR h a v) (nd : (fs.map (·.1)).Nodup) : All2 (EntR h) (storeA fs x a) (putL x hs (.str x t) v es) := by
  unfold storeA
  induction r with
  | nil => exact .cons ⟨⟨t, rfl⟩, ra⟩ .nil
  | @cons p q l r hpq hr ih =>
    obtain ⟨⟨t', e1⟩, e2⟩ := hpq
    rw [List.map_cons, List.nodup_cons] at nd
    unfold putL
    by_cases z : p.1 = x
    · have z' : q.key.isStr x = true := by rw [e1, isStr_str]; exact decide_eq_true z
      rw [if_pos z']
      simp only [List.any_cons, z, decide_true, Bool.true_or, if_true, List.map_cons]
      refine .cons ⟨⟨t', e1.trans (by rw [z])⟩, ra⟩ ?_
      have : l.map (fun p => if p.1 = x then (p.1, a) else p) = l := by
        conv => rhs; rw [← List.map_id l]
        refine List.map_congr_left fun b hb => ?_
        rw [if_neg]; rfl
        intro z2
        exact nd.1 (List.mem_map.mpr ⟨b, hb, z2.trans z.symm⟩)
      rw [this]
      exact hr
    · have z' : q.key.isStr x = false := by rw [e1, isStr_str]; exact decide_eq_false z
      rw [z']
      have ih := ih nd.2
      simp only [List.any_cons, z, decide_false, Bool.false_or, Bool.false_eq_true, if_false, List.map_cons, List.cons_append]
      by_cases w : l.any (fun p => decide (p.1 = x)) = true
      · rw [if_pos w] at ih ⊢
        exact .cons ⟨⟨t', e1⟩, e2⟩ ih
      · rw [if_neg w] at ih ⊢
        exact .cons ⟨⟨t', e1⟩, e2⟩ ih
theorem putL_length (x : Str) (hs : Int) (k v : Value) : ∀ es : List DictEntry, (putL x hs k v es).length ≤ es.length + 1
  | [] => by simp [putL]
  | e :: r => by
    unfold putL
    split
    · simp
    · simpa using putL_length x hs k v r

section
variable {c : Cfg} {k : Nat} {rest : List Frm} {env : Env} {α β : Type} {R : Heap → β → α → Prop} {am : AEnv} {H : AH} {h : Heap}

structure InstR (h : Heap) (x C dx : Addr) (fs : List (Str × AV)) (es : List DictEntry) (n : Nat) : Prop where
  inst : InstAt h x (instObj C dx) C (some (dictOf es n))
  dict : h.get? dx = some (dictOf es n)
  ents : All2 (EntR h) fs es
theorem St.inst {fsk : List Frm} (S : St c fsk H h) {x C dx : Addr} {fs : List (Str × AV)} (hx : H x = some (.inst C dx)) (hd : H dx = some (.idict fs)) : ∃ es n, InstR h x C dx fs es n := by
  obtain ⟨_, _, e1⟩ := S.objs _ _ hx
  obtain ⟨_, _, es, n, e2, r⟩ := S.objs _ _ hd
  exact ⟨es, n, ⟨e1, rfl, rfl, e2⟩, e2, r⟩

/-- facts of a class and a name: a plain attribute -/
noncomputable def attrOk (K : Frag) (C : Addr) (name : Str) : Bool := plainGet K C name && hasDictIn K C && decide (findIn K (.ref C) name = some none)
theorem W_attr {x C dx : Addr} {fs : List (Str × AV)} {name : Str} {b : AV} {ex : Bool} {Q : AV → AEnv → AH → Prop} (hx : H x = some (.inst C dx)) (hd : H dx = some (.idict fs)) (hn : valA fs name = some b) (ok : ∀ P, attrOk (KK P) C name = true) (hp : b.plain = true) (q : Q b am H) :
    W1 c k rest env RV (.ref x) (fun v => getAttr v name ex) am H Q := fun A s E v o a S r => by
  subst r
  obtain ⟨es, n, I⟩ := S.inst hx hd
  obtain ⟨u, hu, ru⟩ := (getL_R (x := name) I.ents).1 _ hn
  obtain ⟨mc, F, _⟩ := S.F
  have z := ok c.w.params
  simp only [attrOk, Bool.and_eq_true, decide_eq_true_eq] at z
  exact get_own F o.K I.inst z.1.1 z.1.2 z.2 rfl hu (ru.handed hp) (Post.intro (h' := s.heap) ru .refl S q)

theorem St.change (S : St c (⟨env, am⟩ :: rest) H h) {h' : Heap} {am' : AEnv} {d : Addr} {o o' : AO} (e : H d = some o) (k : ∀ b ob, b ≠ d → b ≠ env.locals → h.get? b = some ob → h'.get? b = some ob) (x : TupExt h h') (r : ObjR c h' d o') (n : ∃ mc, h'.Ns env.locals mc ∧ MapR h' mc am') : St c (⟨env, am'⟩ :: rest) (Mine.upd H d o') h' where
  ground := fun b ob q => k b ob (by rintro rfl; rw [(S.objs _ _ e).1] at q; cases q) (by rintro rfl; have := S.top.new; rw [q] at this; cases this) (S.ground b ob q)
  objs := fun b ob q => by
    have up : ∀ {b}, (∀ f ∈ (⟨env, am⟩ :: rest : List Frm), f.env.locals ≠ b) → ∀ f ∈ (⟨env, am'⟩ :: rest : List Frm), f.env.locals ≠ b := fun q f m => by
      rcases List.mem_cons.mp m with rfl | m
      · exact q ⟨env, am⟩ (.head _)
      · exact q f (.tail _ m)
    by_cases z : b = d
    · subst z
      rw [upd_same] at q; cases q
      exact ⟨(S.objs _ _ e).1, up (S.objs _ _ e).2.1, r⟩
    · rw [upd_ne z] at q
      obtain ⟨p, q', r'⟩ := S.objs b ob q
      exact ⟨p, up q', r'.mono x fun _ => k _ _ z (fun w => q' _ (.head _) w.symm)⟩
  frs := fun f m => by
    rcases List.mem_cons.mp m with rfl | m
    · exact ⟨S.top.kind, S.top.new, S.top.above, n⟩
    · refine (S.frs f (.tail _ m)).mono x fun mc n => ?_
      obtain ⟨ob, es, ep, g, rr⟩ := n
      refine ⟨ob, es, ep, k _ _ ((S.objs _ _ e).2.1 f (.tail _ m)) ?_ g, rr⟩
      have a := S.apart
      rw [List.map_cons, List.nodup_cons] at a
      intro z
      exact a.1 (List.mem_map.mpr ⟨f, m, z⟩)
  apart := S.apart
theorem Ext.of_change {es : List Env} {h' : Heap} {d : Addr} {o o' : AO} (me : env ∈ es) (q : H d = some o) (x : TupExt h h') (k : ∀ b ob, b ≠ d → b ≠ env.locals → h.get? b = some ob → h'.get? b = some ob) (nl : o ≠ .lent := by simp) : Ext es H h (upd H d o') h' :=
  ⟨x, fun b ob e m f => by
    have z : b ≠ d := m.ne q nl
    exact ⟨k _ _ z (fun w => f _ me w.symm) e, upd_ne z⟩⟩

noncomputable def ndB : List Str → Bool
  | [] => true
  | x :: l => l.all (fun y => !decide (x = y)) && ndB l
theorem ndB_of : ∀ {l : List Str}, ndB l = true → l.Nodup
  | [], _ => List.nodup_nil
  | x :: l, h => by
    simp only [ndB, Bool.and_eq_true, List.all_eq_true, Bool.not_eq_true', decide_eq_false_iff_not] at h
    rw [List.nodup_cons]
    exact ⟨fun m => h.1 x m rfl, ndB_of h.2⟩
noncomputable def setOk (K : Frag) (C : Addr) (name : Str) : Bool := decide (findIn K (.ref C) "__setattr__" = some (some (.builtin "object.__setattr__"))) && plainOver K C && decide (takerIn K C name = some none) && hasDictIn K C
theorem W_setAttr {x C dx : Addr} {fs : List (Str × AV)} {name : Str} {b : AV} {Q : Unit → AEnv → AH → Prop} (hx : H x = some (.inst C dx)) (hd : H dx = some (.idict fs)) (ok : ∀ P, setOk (KK P) C name = true)
    (q : Q () am (upd H dx (.idict (storeA fs name b)))) (nd : ndB (fs.map (·.1)) = true := by rfl) (hz : Nat.ble fs.length 900 = true := by rfl) : W2 c k rest env RU b (.ref x) (fun v o => setAttr o name v) am H Q := fun A s E v u o a S r r' => by
  subst r'
  obtain ⟨es, n, I⟩ := S.inst hx hd
  obtain ⟨mc, F, mr⟩ := S.F
  have z := ok c.w.params
  simp only [setOk, Bool.and_eq_true, decide_eq_true_eq] at z
  have gd := S.objs _ _ hd
  have N : News c.G env.locals s.heap (allN c.G s.heap env.locals) := fun p hp => mem_allN.mp hp
  have md : (dx, dictOf es n) ∈ allN c.G s.heap env.locals := mem_allN.mpr ⟨I.dict, fun e => gd.2.1 _ (.head _) e.symm, gd.1⟩
  have hl : (getL name es).isSome = true := by
    have g := getL_R (x := name) I.ents
    cases q : valA fs name with
    | none => rw [g.2 q]; rfl
    | some b => obtain ⟨u, hu, _⟩ := g.1 b q; rw [hu]; rfl
  obtain ⟨l', U, m1, m2⟩ := upd_of_mem (o' := dictOf (putL name (PyData.keyHash c.w.params name) (.str name (s.toks + 1)) v es) (putN name es n)) (allN_nodup ..) md
  refine set_dict F o.K N I.inst rfl z.1.1.1 z.1.1.2 z.1.2 z.2 hl rfl U (Nat.le_trans (putL_length ..) (by have := I.ents.len; have := Nat.le_of_ble_eq_true hz; lia)) (fun h' F' N' => ?_)
  have kp : ∀ b ob, b ≠ dx → b ≠ env.locals → s.heap.get? b = some ob → h'.get? b = some ob := fun b ob z1 z2 e => by
    cases g : c.G.get? b with
    | some ob' =>
      have := S.ground _ _ g
      rw [e] at this; cases this
      exact F'.keep _ _ g
    | none => exact (N' _ (m2 _ (mem_allN.mpr ⟨e, z2, g⟩) z1)).1
  have d' := (N' _ m1).1
  have x' : TupExt s.heap h' := fun a items ⟨o', e, hc, n', dd⟩ => by
    refine ⟨o', kp _ _ ?_ ?_ e, hc, n', dd⟩
    · rintro rfl; rw [I.dict] at e; cases e; cases dd
    · rintro rfl
      obtain ⟨ob, es', ep, g, hd', rr⟩ := F.ns
      rw [g] at e; cases e
      rw [hd'] at dd; cases dd
  exact Post.intro (a := ()) trivial (Ext.of_change (.head _) hd x' kp) (S.change hd kp x' (o' := .idict (storeA fs name b)) ⟨_, _, d', putL_R (I.ents.mono fun _ _ z => z.mono x') (r.mono x') (ndB_of nd)⟩ ⟨mc, F'.ns, mr.mono x'⟩) q
end
inductive PostC (c : Cfg) (fs : List Frm) (H : AH) (Q : AV → AH → Prop) (s : Shared) (v : Value) (s' : Shared) : Prop
  | mk (a : AV) (H' : AH) (h' : Heap) (tk : Nat) (_ : s' = { s with heap := h', toks := tk }) (_ : VR h' a v) (_ : Ext (fs.map (·.env)) H s.heap H' h') (_ : St c fs H' h') (_ : Q a H') : PostC c fs H Q s v s'

/-- the call of f on as, from the objects H: it answers, and Q holds -/
noncomputable def Cl (c : Cfg) (k : Nat) (f : Value) (as : List AV) (H : AH) (Q : AV → AH → Prop) : Prop :=
  ∀ (A : Around) (fs : List Frm) (s : Shared) (vs : List Value), fs ≠ [] → c.Ok → AOk A k (fs.map (·.env)) → St c fs H s.heap → VRs s.heap as vs →
    codeAny (Md c) A (.call f ⟨vs, []⟩) (fun r s' => ∃ v, r = .ok (.ret v) ∧ PostC c fs H Q s v s') s
theorem W_of_Cl {c : Cfg} {k : Nat} {rest : List Frm} {env : Env} {am : AEnv} {H : AH} {f : Value} {as : List AV} {Q : AV → AEnv → AH → Prop} (w : Cl c k f as H fun a H' => Q a am H') : Wn c k rest env RV as (fun vs => call f vs) am H Q :=
  fun A s E vs o a S r => wpAny_call (codeAny_mono (w A (⟨env, am⟩ :: rest) s vs (by simp) o a S r) fun r s' ⟨v, e, a, H', h', tk, e', rv, x, S', z⟩ => by
    subst e; subst e'; exact Post.intro rv x S' z)

theorem mapR_zip {h : Heap} {y : Str} : ∀ {xs : List Str} {as : List AV} {vs : List Value}, VRs h as vs → All2 (PairR h) (xs.zip as) (xs.zip vs)
  | [], _, _, _ => by simp only [List.zip_nil_left]; exact .nil
  | _ :: _, [], _, r => by subst r; simp only [List.zip_nil_right]; exact .nil
  | x :: xs, a :: as, _, r => by
    obtain ⟨v, q, rfl, r1, r2⟩ := r
    simp only [List.zip_cons_cons]
    exact .cons ⟨rfl, r1⟩ (mapR_zip (y := y) r2)
theorem All2.reverse {α β : Type} {R : α → β → Prop} {l : List α} {r : List β} (x : All2 R l r) : All2 R l.reverse r.reverse := by
  induction x with
  | nil => exact .nil
  | cons p _ ih => rw [List.reverse_cons, List.reverse_cons]; exact ih.append (.cons p .nil)
theorem lookup_R {h : Heap} {l : List (Str × AV)} {r : List (Str × Value)} (x : All2 (PairR h) l r) : MapR h (fun y => r.lookup y) (fun y => l.lookup y) := by
  intro y a e
  induction x with
  | nil => cases e
  | @cons p q l r pr _ ih =>
    obtain ⟨p1, p2⟩ := p; obtain ⟨q1, q2⟩ := q
    obtain ⟨e1, e2⟩ := pr
    dsimp only at e1; subst e1
    simp only [List.lookup_cons] at e ⊢
    by_cases z : (y == p1) = true
    · rw [z] at e; cases e
      rw [z]; exact ⟨q2, rfl, e2⟩
    · rw [Bool.not_eq_true] at z
      rw [z] at e
      rw [z]; exact ih e
/-- the names of a new frame -/
noncomputable def amZ (xs : List Str) (as : List AV) : AEnv := fun y => (xs.zip as).reverse.lookup y

noncomputable def AF.out : AF → AV
  | .ret a => a
  | _ => .none

theorem callEnvs_cons {e : Env} {es : List Env} (h : e.frame = some e.locals) : callEnvs (e :: es) = e :: callEnvs es := by
  unfold callEnvs; rw [List.filter_cons_of_pos]; simp [h]
theorem AOk.deeper {A : Around} {k : Nat} {es : List Env} (a : AOk A (k + 1) es) {e : Env} (h : e.frame = some e.locals) : AOk (A.deeper e) k (e :: es) where
  frames := by rw [callEnvs_cons h]; show A.frames.map _ = _; rw [a.frames]; rfl
  handled := a.handled
  depth := by have := a.depth; show A.depth + 1 + _ < _; lia
  units := by have := a.units; show A.units + 3 + _ + _ < _; lia
theorem AOk.room {A : Around} {k : Nat} {es : List Env} (a : AOk A k es) : A.depth < recursionLimit := by have := a.depth; lia

section
variable {c : Cfg} {k : Nat} {fs : List Frm} {H : AH} {h h' : Heap}
theorem St.size_le (S : St c fs H h) (n : fs ≠ []) : c.G.objs.size ≤ h.objs.size := by
  cases fs with
  | nil => exact absurd rfl n
  | cons f r =>
    have F := S.frs f (.head _)
    obtain ⟨mc, ⟨ob, _, _, g, _⟩, _⟩ := F.ns
    exact Nat.le_trans F.above (Nat.le_of_lt (Heap.lt_size g))
/-- a new frame on top -/
theorem St.enter (S : St c fs H h) (n : fs ≠ []) {env : Env} {am : AEnv} (k : Keeps h h') (hl : h.get? env.locals = none) (hz : h.objs.size ≤ env.locals) (hk : env.scope.kind = .function) (ns : ∃ mc, h'.Ns env.locals mc ∧ MapR h' mc am) : St c (⟨env, am⟩ :: fs) H h' where
  ground := S.ground.trans k
  objs := fun a o e => by
    obtain ⟨p, q, r⟩ := (S.keeps k).objs a o e
    refine ⟨p, fun f m => ?_, r⟩
    rcases List.mem_cons.mp m with rfl | m
    · intro z
      dsimp only at z
      rw [← z, S.fresh hl] at e; cases e
    · exact q f m
  frs := fun f m => by
    rcases List.mem_cons.mp m with rfl | m
    · refine ⟨hk, ?_, Nat.le_trans (S.size_le n) hz, ns⟩
      cases w : c.G.get? env.locals with
      | none => rfl
      | some o => have := S.ground _ _ w; rw [hl] at this; cases this
    · exact (S.keeps k).frs f m
  apart := by
    rw [List.map_cons, List.nodup_cons]
    refine ⟨fun z => ?_, S.apart⟩
    obtain ⟨f, m, e⟩ := List.mem_map.mp z
    obtain ⟨mc, ⟨ob, _, _, g, _⟩, _⟩ := (S.frs f m).ns
    dsimp only at e
    rw [e, hl] at g; cases g
theorem St.leave {f : Frm} (S : St c (f :: fs) H h) : St c fs H h where
  ground := S.ground
  objs := fun a o e => let ⟨p, q, r⟩ := S.objs a o e; ⟨p, fun f m => q f (.tail _ m), r⟩
  frs := fun f m => S.frs f (.tail _ m)
  apart := by have := S.apart; rw [List.map_cons, List.nodup_cons] at this; exact this.2
theorem Ext.leave {e : Env} {es : List Env} {H' : AH} {h₁ : Heap} (k : Keeps h h₁) (hl : h.get? e.locals = none) (x : Ext (e :: es) H h₁ H' h') : Ext es H h H' h' :=
  ⟨fun a i t => x.tup a i (k.tup a i t), fun b o g n f => x.keep b o (k b o g) n fun e' m => by
    rcases List.mem_cons.mp m with rfl | m
    · intro z; rw [← z, hl] at g; cases g
    · exact f e' m⟩
end

section
variable {c : Cfg} {k : Nat} {H : AH} {as as' : List AV} {Q : AV → AH → Prop}
theorem Cl_fnG {fa : Addr} {name qual : Str} {params : Arguments} {body : List Stmt} {scope : Scope} {dV kV doc pm cdv ct oc : Value} {an od : Option Addr} {osl : Array (Option Value)} (xs : List Str)
    (ho : ∀ P, (KK P).lookup fa = some ⟨oc, od, .func (fnOf name qual params body scope dV kV doc pm an cdv ct), osl⟩) (hcd : ∀ P, codeIn (KK P) cdv qual = true)
    (hb : ∀ (s : Shared) vs, (KK c.w.params).In s.heap → VRs s.heap as vs → ∃ vs', BindsTo s (fnOf name qual params body scope dV kV doc pm an cdv ct) ⟨vs, []⟩ (xs.zip vs') ∧ VRs s.heap as' vs')
    (hloc : ∀ x ∈ xs, scope.names.lookup x = some .local) (hcell : ∀ x ∈ scope.names, x.2 ≠ .cell)
    (w : ∀ L fs, W c k fs (envOf qual scope L fa cdv) RF (execs body (envOf qual scope L fa cdv)) (amZ xs as') H fun f _ H' => Q f.out H')
    (hco : scope.isCoroutine = false := by rfl) (hgen : scope.isGenerator = false := by rfl) (hk : scope.kind = .function := by rfl) : Cl c (k + 1) (.ref fa) as H Q := by
  intro A fs s vs n o a S r
  obtain ⟨vs', B, r'⟩ := hb s vs (S.K o) r
  refine codeAny_call_def (fd := fnOf name qual params body scope dV kV doc pm an cdv ct) (body := body) a.room (S.K o _ _ (ho _)) rfl (S.T o).nolimit (codeRec_of (S.K o) (hcd _)) rfl B hcell (fun x m => ?_) (fun h₁ hns hk₁ => ?_) hco hgen hk
  · exact hloc _ (List.of_mem_zip m).1
  · have hl : s.heap.get? s.heap.objs.size = none := Heap.get?_none_of_le (Nat.le_refl _)
    have S₁ : St c (⟨envOf qual scope s.heap.objs.size fa cdv, amZ xs as'⟩ :: fs) H h₁ := S.enter n hk₁ hl (Nat.le_refl _) hk ⟨_, hns, (lookup_R (mapR_zip (y := qual) r').reverse).mono (Keeps.tup hk₁)⟩
    refine noE ((w _ fs).step o (a.deeper rfl) S₁ fun fl f am' H' h' tk rf x S' q => ?_)
    refine ⟨_, rfl, f.out, H', h', tk, rfl, ?_, x.leave hk₁ hl, S'.leave, q⟩
    cases fl <;> cases f <;> first | exact rf | exact rf.elim | (simp only [AF.out, VR])
/-- a def without defaults -/
theorem Cl_fn {fa : Addr} {name qual : Str} {params : Arguments} {body : List Stmt} {scope : Scope} {dV kV doc pm cdv ct oc : Value} {an od : Option Addr} {osl : Array (Option Value)} (xs : List Str)
    (ho : ∀ P, (KK P).lookup fa = some ⟨oc, od, .func (fnOf name qual params body scope dV kV doc pm an cdv ct), osl⟩) (hcd : ∀ P, codeIn (KK P) cdv qual = true)
    (hb : ∀ vs, vs.length = as.length → bindArgs (fnOf name qual params body scope dV kV doc pm an cdv ct) ⟨vs, []⟩ = pure (xs.zip vs))
    (hloc : ∀ x ∈ xs, scope.names.lookup x = some .local) (hcell : ∀ x ∈ scope.names, x.2 ≠ .cell)
    (w : ∀ L fs, W c k fs (envOf qual scope L fa cdv) RF (execs body (envOf qual scope L fa cdv)) (amZ xs as) H fun f _ H' => Q f.out H')
    (hco : scope.isCoroutine = false := by rfl) (hgen : scope.isGenerator = false := by rfl) (hk : scope.kind = .function := by rfl) : Cl c (k + 1) (.ref fa) as H Q :=
  Cl_fnG xs ho hcd (fun s vs _ r => ⟨vs, BindsTo.of_eq (hb vs r.length), r⟩) hloc hcell w hco hgen hk

theorem AOk.make {A : Around} {es : List Env} (a : AOk A (k + 1) es) (C : Addr) (vs : List Value) : AOk (A.under (.builtin "type.__call__" ⟨.ref C :: vs, []⟩)) k es where
  frames := a.frames
  handled := a.handled
  depth := by have := a.depth; show A.depth + 1 + _ < _; lia
  units := by have := a.units; show A.units + 1 + _ + _ < _; lia
/-- a class is called -/
theorem Cl_make {C fI : Addr} (hm : ∀ P, makesIn (KK P) C = true) (hi : ∀ P, findIn (KK P) (.ref C) "__init__" = some (some (.ref fI))) (hf : ∀ P, typeIn (KK P) (.ref fI) = some (.type "function"))
    (w : ∀ x dx, H x = none → H dx = none → x ≠ dx → Cl c k (.ref fI) (.ref x :: as) (upd (upd H dx (.idict [])) x (.inst C dx)) fun a H' => a = .none ∧ Q (.ref x) H') : Cl c (k + 1) (.ref C) as H Q := by
  intro A fs s vs n o a S r
  obtain ⟨hh, g, d, t, os⟩ := s
  dsimp only at S r ⊢
  have X := S.K o
  refine make_core (makes_of X (hm _)) (looks_findIn X (hi _)) (fun self => bind_fn X self (hf _)) (.inl rfl) ?_
  have n1 : hh.get? hh.objs.size = none := Heap.get?_none_of_le (Nat.le_refl _)
  have S1 : St c fs (upd H hh.objs.size (.idict [])) (hh.push emptyDict) := S.alloc (Keeps.push _ _) n1 (o := .idict []) ⟨[], 0, Heap.get?_push_size _ rfl, .nil⟩
  have n2 : (hh.push emptyDict).get? (hh.objs.size + 1) = none := Heap.get?_none_of_le (by rw [Heap.size_push]; exact Nat.le_refl _)
  have S2 : St c fs (upd (upd H hh.objs.size (.idict [])) (hh.objs.size + 1) (.inst C hh.objs.size)) ((hh.push emptyDict).push (instObj C hh.objs.size)) :=
    S1.alloc (Keeps.push _ _) n2 (o := .inst C hh.objs.size) (by show Heap.get? _ _ = _; rw [← Heap.size_push hh emptyDict]; exact Heap.get?_push_size _ rfl)
  have n3 : hh.get? (hh.objs.size + 1) = none := Heap.get?_none_of_le (Nat.le_succ _)
  have k2 : Keeps hh ((hh.push emptyDict).push (instObj C hh.objs.size)) := (Keeps.push _ _).trans (Keeps.push _ _)
  refine codeAny_mono (w (hh.objs.size + 1) hh.objs.size (S.fresh n3) (S.fresh n1) (Nat.succ_ne_self _) _ fs ⟨_, g, d, t, os⟩ (.ref (hh.objs.size + 1) :: vs) n o (a.make C vs) S2 (by
    exact ⟨_, _, rfl, rfl, r.mono k2.tup⟩)) fun r s' z => ?_
  obtain ⟨v, rfl, b, H', h', tk, rfl, rb, x, S', rfl, q⟩ := z
  subst rb
  refine ⟨rfl, _, rfl, .ref (hh.objs.size + 1), H', h', tk, rfl, by simp only [VR], ?_, S', q⟩
  refine Ext.trans (H' := upd (upd H hh.objs.size (.idict [])) (hh.objs.size + 1) (.inst C hh.objs.size)) ⟨k2.tup, fun b ob e m _ => ⟨k2 _ _ e, ?_⟩⟩ x
  rw [upd_ne, upd_ne]
  · rintro rfl; rw [n1] at e; cases e
  · rintro rfl; rw [n3] at e; cases e
end

section
variable {c : Cfg} {k : Nat} {rest : List Frm} {env : Env} {α β : Type} {R : Heap → β → α → Prop} {am : AEnv} {H : AH} {h : Heap}
/-- a method of a is looked up and called -/
noncomputable def WM (c : Cfg) (k : Nat) (rest : List Frm) (env : Env) (a : AV) (name : Str) (args : List Expr) (pos : Pos) (am : AEnv) (H : AH) (Q : AV → AEnv → AH → Prop) : Prop :=
  ∀ (A : Around) (s : Shared) (E : Value → Shared → Prop) (v : Value) (pl : Sem Bool), c.Ok → AOk A k (envs rest env) → St c (⟨env, am⟩ :: rest) H s.heap → VR s.heap a v →
    wpAny (Md c) A (getMethod v name pl) (fun fx s₂ => wpAny (Md c) A (callWith pos fx.1 fx.2 (backTo pos (starEach args env)) []) (Post c rest env RV H Q s) E s₂) E s
theorem W_MethodCall {o : Expr} {name : Str} {apos pos : Pos} {args : List Expr} {pl : Sem Bool} {Q : AV → AEnv → AH → Prop}
    (w : W c k rest env RV (eval o env) am H fun a am H => WM c k rest env a name args pos am H Q)
    (he : eval (.Call (.Attribute o name apos) args [] pos) env = (do
      let ov ← eval o env
      standAt apos.atName
      let (f, first) ← holding [ov] (getMethod ov name pl)
      callWith pos f first (backTo pos (starEach args env)) []) := by rfl) :
    W c k rest env RV (eval (.Call (.Attribute o name apos) args [] pos) env) am H Q := fun A s E ok a S =>
  MethodCall_ (w.step ok a S fun v b am' H' h' tk r x S' w' =>
    wpAny_mono (w' A { s with heap := h', toks := tk } E v pl ok a S' r) (fun fx s₂ z => wpAny_mono z (fun _ _ p => Post.after x p) fun _ _ e => e) fun _ _ e => e) he

noncomputable def methOk (K : Frag) (C f : Addr) (name : Str) : Bool := plainGet K C name && decide (findIn K (.ref C) name = some (some (.ref f))) && isFn K (.ref f)
theorem WM_inst {x C dx f : Addr} {fs : List (Str × AV)} {name : Str} {args : List Expr} {pos : Pos} {Q : AV → AEnv → AH → Prop} (hx : H x = some (.inst C dx)) (hd : H dx = some (.idict fs)) (hn : valA fs name = none) (ok : ∀ P, methOk (KK P) C f name = true)
    (w : W c k rest env RV (callWith pos (.ref f) [.ref x] (backTo pos (starEach args env)) []) am H Q) : WM c k rest env (.ref x) name args pos am H Q := fun A s E v pl o a S r => by
  subst r
  obtain ⟨es, n, I⟩ := S.inst hx hd
  obtain ⟨mc, F, _⟩ := S.F
  have z := ok c.w.params
  simp only [methOk, Bool.and_eq_true, decide_eq_true_eq] at z
  exact method_inst F o.K I.inst z.1.1 z.1.2 z.2 ((getL_R (x := name) I.ents).2 hn) (w A s E o a S)
theorem WM_list {l : Addr} {as : List AV} {id : String} {name : Str} {args : List Expr} {pos : Pos} {Q : AV → AEnv → AH → Prop} (hl : H l = some (.list as)) (slot : Slot "list" name id) (hty : typeOf (.builtin id) = pure (.type "method_descriptor"))
    (w : W c k rest env RV (callWith pos (.builtin id) [.ref l] (backTo pos (starEach args env)) []) am H Q) : WM c k rest env (.ref l) name args pos am H Q := fun A s E v pl o a S r => by
  subst r
  obtain ⟨_, _, vs, n, e, rv⟩ := S.objs _ _ hl
  exact getMethod_list_of slot hty ⟨_, e, rfl, n, rfl⟩ ⟨_, e, rfl⟩ (w A s E o a S)
theorem W_callMeth {id : String} {e : Expr} {r : List Expr} {pos : Pos} {first : List Value} {fa : List AV} {Q : AV → AEnv → AH → Prop} (hfa : ∀ h, VRs h fa first)
    (w : W c k rest env RL (spliced (backTo pos (starEach (e :: r) env))) am H fun as am H => Wn c k rest env RV (fa ++ as) (fun vs => call (.builtin id) vs) am H Q)
    (he : starEach (e :: r) env = (false, eval e env) :: starEach r env := by rfl) (hplain : (backTo pos (starEach r env)).any (·.1) = false := by rfl) :
    W c k rest env RV (callWith pos (.builtin id) first (backTo pos (starEach (e :: r) env)) []) am H Q := fun A s E o a S =>
  callWith_method1 (w.step o a S fun v b am' H' h' tk r x S' w' => w'.run o a S' ((hfa _).append r) x) he hplain
theorem W_callMeth0 {id : String} {pos : Pos} {first : List Value} {fa : List AV} {Q : AV → AEnv → AH → Prop} (hfa : ∀ h, VRs h fa first) (w : Wn c k rest env RV fa (fun vs => call (.builtin id) vs) am H Q) :
    W c k rest env RV (callWith pos (.builtin id) first (backTo pos (starEach [] env)) []) am H Q := fun A s E o a S => callWith_method0 (w A s E first o a S (hfa _))
end
noncomputable def restore : Option (Addr × AO) → AH → AH
  | none, H => H
  | some p, H => upd H p.1 p.2
noncomputable def LoopQ (J : AEnv → AH → Prop) (Q : AF → AEnv → AH → Prop) (f : AF) (m : AEnv) (H : AH) : Prop := match f with
  | .next => J m H
  | .cont => J m H
  | .brk => Q .next m H
  | .ret a => Q (.ret a) m H

/-- an iterator I, made since the heap h₀, that gives as, one by one; own: what of ours is lent to it -/
inductive Walkable (c : Cfg) (A : Around) (es : List Env) (target : Expr) (H₀ : AH) (h₀ : Heap) (H : AH) (h : Heap) (I : Addr) (as : List AV) (own : Option (Addr × AO)) : Prop
  | mk (fp wr : List Addr) (P Md : Nat → Value → Heap → Prop) (St' : Nat → Heap → Prop) (_ : KTurns pw c.w A target I fp wr as.length P Md St') (_ : ∀ i (s : Shared) (Q : Value → Shared → Prop) (E : Value → Shared → Prop), St' i s.heap → Q (.ref I) s → wpAny (Mine.Md c) A (pyIter (.ref I)) Q E s) (_ : St' 0 h)
    (_ : ∀ b ∈ fp, free H b ∧ ∀ e ∈ es, e.locals ≠ b) (_ : ∀ b ∈ wr, H b = none ∧ (∀ o, h₀.get? b = some o → free H₀ b → (∀ e ∈ es, e.locals ≠ b) → False) ∧ c.G.get? b = none)
    (_ : ∀ i h, St' i h → (∀ b ∈ fp, ∃ o, h.get? b = some o) ∧ ∀ b ∈ wr, ∀ items, ¬ IsTup h b items) (_ : ∀ i v h, Md i v h → ∀ b ∈ wr, ∀ items, ¬ IsTup h b items)
    (_ : ∀ i v h', TupExt h h' → P i v h' → ∃ a, as[i]? = some a ∧ VR h' a v) (_ : ∀ p, own = some p → (free H₀ p.1 → h₀.get? p.1 = none) ∧ p.1 ∈ fp ∧ p.1 ∉ wr ∧ ObjR c h p.1 p.2 ∧ c.G.get? p.1 = none) : Walkable c A es target H₀ h₀ H h I as own
inductive WIP (c : Cfg) (rest : List Frm) (env : Env) (target : Expr) (A : Around) (H : AH) (Q : List AV → Option (Addr × AO) → AEnv → AH → Prop) (s : Shared) (it : Value) (s₂ : Shared) : Prop
  | mk (I : Addr) (as : List AV) (own : Option (Addr × AO)) (am' : AEnv) (H' : AH) (h' : Heap) (tk : Nat) (_ : it = .ref I) (_ : s₂ = { s with heap := h', toks := tk }) (_ : Ext (envs rest env) H s.heap H' h')
    (_ : St c (⟨env, am'⟩ :: rest) H' h') (_ : Walkable c A (envs rest env) target H s.heap H' h' I as own) (_ : Q as own am' H') : WIP c rest env target A H Q s it s₂

section
variable {c : Cfg} {fs : List Frm} {H : AH} {h h' : Heap}
theorem St.off (S : St c fs H h) {wr : List Addr} (hw : ∀ b ∈ wr, H b = none ∧ (∀ f ∈ fs, f.env.locals ≠ b) ∧ c.G.get? b = none) (nt : ∀ b ∈ wr, ∀ items, ¬ IsTup h b items) (k : ∀ b o, b ∉ wr → h.get? b = some o → h'.get? b = some o) : St c fs H h' ∧ TupExt h h' := by
  have x : TupExt h h' := fun a items t => let ⟨o, e, r⟩ := t; ⟨o, k a o (fun m => nt a m items ⟨o, e, r⟩) e, r⟩
  refine ⟨⟨fun b o e => k b o (fun m => ?_) (S.ground b o e), fun a o e => ?_, fun f m => ?_, S.apart⟩, x⟩
  · rw [(hw b m).2.2] at e; cases e
  · obtain ⟨p, q, r⟩ := S.objs a o e
    exact ⟨p, q, r.mono x fun ob g => k a ob (fun m => by rw [(hw a m).1] at e; cases e) g⟩
  · refine (S.frs f m).mono x fun mc n => ?_
    obtain ⟨ob, es, ep, g, rr⟩ := n
    exact ⟨ob, es, ep, k _ _ (fun m' => (hw _ m').2.1 f m rfl) g, rr⟩
theorem St.restore (S : St c fs H h) {own : Option (Addr × AO)} (hp : ∀ p, own = some p → ObjR c h p.1 p.2 ∧ c.G.get? p.1 = none ∧ ∀ f ∈ fs, f.env.locals ≠ p.1) : St c fs (restore own H) h := by
  cases own with
  | none => exact S
  | some p =>
    refine ⟨S.ground, fun a o e => ?_, S.frs, S.apart⟩
    obtain ⟨r, g, f⟩ := hp p rfl
    by_cases z : a = p.1
    · subst z
      rw [show Mine.restore (some p) H = Mine.upd H p.1 p.2 from rfl, upd_same] at e; cases e
      exact ⟨g, f, r⟩
    · rw [show Mine.restore (some p) H = Mine.upd H p.1 p.2 from rfl, upd_ne z] at e
      exact S.objs a o e
theorem Ext.restore {es : List Env} {H' : AH} (x : Ext es H h H' h') {own : Option (Addr × AO)} (hp : ∀ p, own = some p → free H p.1 → h.get? p.1 = none) : Ext es H h (restore own H') h' :=
  ⟨x.tup, fun b o e n f => by
    obtain ⟨q, q'⟩ := x.keep b o e n f
    refine ⟨q, ?_⟩
    cases own with
    | none => exact q'
    | some p =>
      rw [show Mine.restore (some p) H' = Mine.upd H' p.1 p.2 from rfl, upd_ne]; exact q'
      rintro rfl; have := hp p rfl n; rw [this] at e; cases e⟩
end

section
variable {c : Cfg} {k : Nat} {rest : List Frm} {env : Env} {α β : Type} {R : Heap → β → α → Prop} {am : AEnv} {H : AH} {h : Heap}
noncomputable def WI (c : Cfg) (k : Nat) (rest : List Frm) (env : Env) (target iter : Expr) (am : AEnv) (H : AH) (Q : List AV → Option (Addr × AO) → AEnv → AH → Prop) : Prop :=
  ∀ (A : Around) (s : Shared) (E : Value → Shared → Prop), c.Ok → AOk A k (envs rest env) → St c (⟨env, am⟩ :: rest) H s.heap →
    wpAny (Md c) A (eval iter env) (fun xv s₁ => wpAny (Md c) A (pyIter xv) (fun it s₂ => WIP c rest env target A H Q s it s₂) E s₁) E s

inductive ForInv (c : Cfg) (rest : List Frm) (env : Env) (H : AH) (s : Shared) (J : List AV → Option (Addr × AO) → Nat → AEnv → AH → Prop) (as : List AV) (own : Option (Addr × AO)) (fp wr : List Addr) (St' : Nat → Heap → Prop) (h' : Heap) (n : Nat) (s' : Shared) : Prop
  | mk (i : Nat) (am₁ : AEnv) (H₁ : AH) (h₁ : Heap) (tk₁ : Nat) (_ : s' = { s with heap := h₁, toks := tk₁ }) (_ : n + i = as.length) (_ : Ext (envs rest env) H s.heap H₁ h₁) (_ : St c (⟨env, am₁⟩ :: rest) H₁ h₁) (_ : J as own i am₁ H₁) (_ : St' i h₁)
    (_ : ∀ b ∈ fp, free H₁ b) (_ : ∀ b ∈ wr, H₁ b = none) (_ : TupExt h' h₁) (_ : ∀ p, own = some p → ObjR c h₁ p.1 p.2) : ForInv c rest env H s J as own fp wr St' h' n s'
theorem W_For {target iter : Expr} {body : List Stmt} {pos : Pos} {Q : AF → AEnv → AH → Prop} (J : List AV → Option (Addr × AO) → Nat → AEnv → AH → Prop)
    (w : WI c k rest env target iter am H fun as own am H => J as own 0 am H ∧
      (∀ i a am H, as[i]? = some a → J as own i am H → W1 c k rest env RU a (fun v => assign target env v) am H fun _ am H => W c k rest env RF (execs body env) am H (LoopQ (J as own (i + 1)) fun f am H => Q f am (restore own H))) ∧
      ∀ am H, J as own as.length am H → Q .next am (restore own H))
    (hs : ∀ x, foldedSetIterable iter env x = pure x := by intro _; rfl) : W c k rest env RF (exec (.For target iter body [] pos) env) am H Q := fun A s E o a S => by
  refine wpAny_For (wpAny_mono (w A s E o a S) (fun xv s₁ h₁ => wpAny_mono h₁ (fun it s₂ h₂ => ?_) fun _ _ e => e) fun _ _ e => e) hs
  obtain ⟨I, as, own, am', H', h', tk, rfl, rfl, x, S', ⟨fp, wr, P, Md', St', T, _, st0, hfp, hwr, hst, hmd, hval, hown⟩, j0, turn, fin⟩ := h₂
  have frm : ∀ {am₁ : AEnv} {b : Addr}, (∀ e ∈ envs rest env, e.locals ≠ b) → ∀ f ∈ (⟨env, am₁⟩ :: rest : List Frm), f.env.locals ≠ b := fun hb f m => by
    rcases List.mem_cons.mp m with rfl | m
    · exact hb env (.head _)
    · exact hb f.env (.tail _ (List.mem_map.mpr ⟨f, m, rfl⟩))
  refine codeAny_forLoop_any (ForInv c rest env H s J as own fp wr St' h') ?_ as.length ⟨0, am', H', h', tk, rfl, rfl, x, S', j0, st0, fun b m => (hfp b m).1, fun b m => (hwr b m).1, .refl _, fun p e => (hown p e).2.2.2.1⟩
  rintro n s' ⟨i, am₁, H₁, h₁, tk₁, rfl, hn, x₁, S₁, j₁, st₁, hfp₁, hwn₁, tx₁, ow₁⟩
  have hw₁ : ∀ {am₁ : AEnv}, ∀ b ∈ wr, H₁ b = none ∧ (∀ f ∈ (⟨env, am₁⟩ :: rest : List Frm), f.env.locals ≠ b) ∧ c.G.get? b = none := fun b m => ⟨hwn₁ b m, frm (hfp b (T.sub b m)).2, (hwr b m).2.2⟩
  have fin' : ∀ {f : AF} {fl : Flow} {am₅ : AEnv} {H₅ : AH} {h₅ : Heap} {tk₅ : Nat}, RF h₅ fl f → Ext (envs rest env) H s.heap H₅ h₅ → St c (⟨env, am₅⟩ :: rest) H₅ h₅ → (∀ p, own = some p → ObjR c h₅ p.1 p.2) → Q f am₅ (restore own H₅) → Post c rest env RF H Q s fl { s with heap := h₅, toks := tk₅ } :=
    fun rf x₅ S₅ ow q => Post.intro rf (x₅.restore fun p e => (hown p e).1) (S₅.restore fun p e => ⟨ow p e, (hown p e).2.2.2.2, frm (hfp p.1 (hown p e).2.1).2⟩) q
  by_cases hi : i < as.length
  · refine T.item i _ _ _ hi st₁ fun v h₂ tk₂ hM hk₂ => ?_
    obtain ⟨S₂, tx₂⟩ := S₁.off hw₁ (hst i h₁ st₁).2 hk₂
    refine T.go i v _ _ _ hM fun h₃ hP st₃ hk₃ => ?_
    obtain ⟨S₃, tx₃⟩ := S₂.off hw₁ (hmd i v h₂ hM) hk₃
    have tx : TupExt h' h₃ := tx₁.trans (tx₂.trans tx₃)
    obtain ⟨b, hb, rv⟩ := hval i v h₃ tx hP
    have x₃ : Ext (envs rest env) H s.heap H₁ h₃ := ⟨x₁.tup.trans (tx₂.trans tx₃), fun b ob e n f => by
      obtain ⟨q, q'⟩ := x₁.keep b ob e n f
      have nw : b ∉ wr := fun m => (hwr b m).2.1 ob e n f
      exact ⟨hk₃ b ob nw (hk₂ b ob nw q), q'⟩⟩
    have ow₃ : ∀ p, own = some p → ObjR c h₃ p.1 p.2 := fun p e => (ow₁ p e).mono (tx₂.trans tx₃) fun ob g => hk₃ _ _ (hown p e).2.2.1 (hk₂ _ _ (hown p e).2.2.1 g)
    have w1 := turn i b am₁ H₁ hb j₁
    refine wpAny_mono (w1 A { s with heap := h₃, toks := tk₂ } _ v o a S₃ rv) (fun u s₄ p₄ => ?_) fun _ _ e => e
    obtain ⟨_, am₄, H₄, h₄, tk₄, rfl, _, x₄, S₄, w2⟩ := p₄
    refine W.step w2 o a S₄ fun fl f am₅ H₅ h₅ tk₅ rf x₅ S₅ q => ?_
    have x₄₅ := x₄.trans x₅
    have k₅ : ∀ b ∈ fp, ∀ ob, h₃.get? b = some ob → h₅.get? b = some ob ∧ H₅ b = H₁ b := fun b hb ob e => x₄₅.keep b ob e (hfp₁ b hb) (hfp b hb).2
    have ow₅ : ∀ p, own = some p → ObjR c h₅ p.1 p.2 := fun p e => (ow₃ p e).mono x₄₅.tup fun ob g => (k₅ _ (hown p e).2.1 ob g).1
    have go : J as own (i + 1) am₅ H₅ → ∃ m, m < n ∧ ForInv c rest env H s J as own fp wr St' h' m { s with heap := h₅, toks := tk₅ } := fun j =>
      ⟨n - 1, by lia, i + 1, am₅, H₅, h₅, tk₅, rfl, by lia, x₃.trans x₄₅, S₅, j, T.frame _ _ _ st₃ fun b hb ob e => (k₅ b hb ob e).1, fun b hb => by
        obtain ⟨ob, e⟩ := (hst _ _ st₃).1 b hb
        exact (hfp₁ b hb).of_eq (k₅ b hb ob e).2, fun b hb => by
        obtain ⟨ob, e⟩ := (hst _ _ st₃).1 b (T.sub b hb)
        exact (k₅ b (T.sub b hb) ob e).2.trans (hwn₁ b hb), tx.trans x₄₅.tup, ow₅⟩
    revert q
    apply RF.four rf
    · intro q; exact go q
    · intro q; exact fin' (f := .next) trivial (x₃.trans x₄₅) S₅ ow₅ q
    · intro q; exact go q
    · intro u b rf q; exact fin' (f := .ret b) rf (x₃.trans x₄₅) S₅ ow₅ q
  · have e : i = as.length := by lia
    subst e
    refine T.done _ _ _ st₁ fun h₂ tk₂ hk₂ => wpAny_execs_nil ?_
    obtain ⟨S₂, tx₂⟩ := S₁.off hw₁ (hst _ h₁ st₁).2 hk₂
    refine fin' (f := .next) trivial ⟨x₁.tup.trans tx₂, fun b ob e n f => ?_⟩ S₂ (fun p e => (ow₁ p e).mono tx₂ fun ob g => hk₂ _ _ (hown p e).2.2.1 g) (fin _ _ j₁)
    obtain ⟨q, q'⟩ := x₁.keep b ob e n f
    exact ⟨hk₂ b ob (fun m => (hwr b m).2.1 ob e n f) q, q'⟩

theorem W_While {test : Expr} {body : List Stmt} {pos : Pos} {Q : AF → AEnv → AH → Prop} (J : Nat → AEnv → AH → Prop) (n : Nat) (j : J n am H)
    (turn : ∀ n am H, J n am H → W c k rest env RB (isTrue test env (eval test env)) am H fun b am H => if b then W c k rest env RF (execs body env) am H (LoopQ (fun am H => ∃ m, m < n ∧ J m am H) Q) else Q .next am H) :
    W c k rest env RF (exec (.While test body [] pos) env) am H Q := fun A s E o a S => by
  refine wpAny_While (codeAny_whileLoop (fun n s' => ∃ am₁ H₁ h₁ tk₁, s' = { s with heap := h₁, toks := tk₁ } ∧ Ext (envs rest env) H s.heap H₁ h₁ ∧ St c (⟨env, am₁⟩ :: rest) H₁ h₁ ∧ J n am₁ H₁) ?_ n ⟨am, H, s.heap, s.toks, rfl, .refl, S, j⟩)
  rintro n s' ⟨am₁, H₁, h₁, tk₁, rfl, x₁, S₁, j₁⟩
  refine W.step (turn n am₁ H₁ j₁) o a S₁ fun v b am₂ H₂ h₂ tk₂ r x₂ S₂ w₂ => ?_
  have r' : v = b := r
  subst r'
  cases v with
  | false => exact wpAny_execs_nil (Post.intro (a := AF.next) trivial (x₁.trans x₂) S₂ w₂)
  | true =>
    refine W.step (t := execs body env) w₂ o a S₂ fun fl f am₃ H₃ h₃ tk₃ rf x₃ S₃ q => ?_
    have x := (x₁.trans x₂).trans x₃
    revert q
    apply RF.four rf
    · intro q; obtain ⟨m, hm, j⟩ := q; exact ⟨m, hm, am₃, H₃, h₃, tk₃, rfl, x, S₃, j⟩
    · intro q; exact Post.intro (a := AF.next) trivial x S₃ q
    · intro q; obtain ⟨m, hm, j⟩ := q; exact ⟨m, hm, am₃, H₃, h₃, tk₃, rfl, x, S₃, j⟩
    · intro u b rf q; exact Post.intro (a := AF.ret b) rf x S₃ q
end
noncomputable def ownTuple (T : String) : Bool := ["enumerate", "zip", "dict_itemiterator", "dict_reverseitemiterator", "odict_iterator", "itertools.zip_longest", "itertools.pairwise"].contains T
theorem letGo_plain {p : Program} {w : World} {A : Around} {E : Value → Shared → Prop} {s : Shared} {target : Expr} {I : Addr} {v : Value} {o : Obj} {T : String} {vs : Array Value} {Q : Unit → Shared → Prop}
    (ho : s.heap.get? I = some o) (hc : o.cls = .type T) (hd : o.data = .fields vs) (hT : ownTuple T = false) (q : Q () s) : wpAny (model p w) A (letOwnedTupleGo target (.ref I) v) Q E s := by
  have key : ∀ a : Addr, wpAny (model p w) A (do
      let o ← load I
      match o.cls, o.data with
      | .type n, .fields vs =>
        if ["enumerate", "zip", "dict_itemiterator", "dict_reverseitemiterator", "odict_iterator", "itertools.zip_longest", "itertools.pairwise"].contains n && vs[0]? == some (rawInt a) then
          rule "for.unpacks-the-owned-tuple"
          updateField I 0 .none
      | _, _ => pure ()) Q E s := fun a => by
    refine wpAny_bind (wpAny_load ho ?_)
    rw [hc, hd]
    dsimp only
    rw [if_neg (by
      intro h
      rw [show (["enumerate", "zip", "dict_itemiterator", "dict_reverseitemiterator", "odict_iterator", "itertools.zip_longest", "itertools.pairwise"].contains T) = false from hT, Bool.false_and] at h
      cases h)]
    exact wpAny_pure q
  unfold letOwnedTupleGo
  cases target <;> first | exact wpAny_pure q | (cases v <;> first | exact wpAny_pure q | exact key _)

section
variable {c : Cfg} {fs : List Frm} {H : AH} {h h' : Heap}
noncomputable def del (H : AH) (a : Addr) : AH := upd H a .lent
theorem del_ne {a b : Addr} (h : b ≠ a) : del H a b = H b := upd_ne h
theorem del_same {a : Addr} : del H a a = some .lent := upd_same ..
theorem St.del (S : St c fs H h) {a : Addr} {o : AO} (e : H a = some o) : St c fs (del H a) h where
  ground := S.ground
  objs := fun b o' e' => by
    by_cases z : b = a
    · rw [z, del_same] at e'; cases e'
      obtain ⟨p, q, r⟩ := S.objs _ _ e
      rw [z]
      exact ⟨p, q, r.there⟩
    · rw [del_ne z] at e'; exact S.objs b o' e'
  frs := S.frs
  apart := S.apart
theorem Ext.del {es : List Env} {H' : AH} (x : Ext es H h H' h') {a : Addr} {o : AO} (e : H' a = some o) (nl : o ≠ .lent) : Ext es H h (del H' a) h' :=
  ⟨x.tup, fun b ob e1 n f => by
    obtain ⟨q, q'⟩ := x.keep b ob e1 n f
    refine ⟨q, ?_⟩
    rw [del_ne]; exact q'
    rintro rfl
    exact (n.of_eq q').ne e nl rfl⟩
theorem upd_del {a : Addr} {o : AO} : upd (Mine.del H a) a o = upd H a o := by
  funext b
  by_cases z : b = a
  · rw [z, upd_same, upd_same]
  · rw [upd_ne z, upd_ne z, del_ne z]
end

section
variable {c : Cfg} {k : Nat} {rest : List Frm} {env : Env} {α β : Type} {R : Heap → β → α → Prop} {am : AEnv} {H : AH} {h : Heap}
theorem not_tup {h : Heap} {b : Addr} {o : Obj} {T : String} (e : h.get? b = some o) (hc : o.cls = .type T) (hT : T ≠ "tuple") (items : Array Value) : ¬ IsTup h b items := fun ⟨o', e', c', _⟩ => by
  rw [e] at e'; cases e'
  rw [hc] at c'; cases c'; exact hT rfl

theorem St.outside {fs : List Frm} (S : St c fs H h) {b : Addr} (n : h.get? b = none) : H b = none ∧ (∀ e ∈ fs.map (·.env), e.locals ≠ b) ∧ c.G.get? b = none := by
  refine ⟨S.fresh n, fun e m z => ?_, ?_⟩
  · obtain ⟨f, mf, rfl⟩ := List.mem_map.mp m
    refine hide fun P' hP' => ?_
    obtain ⟨mc, ⟨ob, _, _, g', _⟩, _⟩ := (S.frs f mf).ns
    refine hP' ?_
    rw [z, n] at g'; cases g'
  · cases w : c.G.get? b with
    | none => rfl
    | some o => have := S.ground _ _ w; rw [n] at this; cases this
theorem Ext.unused {es : List Env} {H' : AH} {h' : Heap} {b : Addr} (x : Ext es H h H' h') (n : h'.get? b = none) : ∀ o, h.get? b = some o → free H b → (∀ e ∈ es, e.locals ≠ b) → False := fun o e z f => by
  have := (x.keep b o e z f).1
  rw [n] at this; cases this

theorem St.frames_ne {fs : List Frm} (S : St c fs H h) {b : Addr} {o : Obj} (e : h.get? b = some o) (hd : ∀ es n, o.data ≠ .dict es n) : ∀ e ∈ fs.map (·.env), e.locals ≠ b := fun e' m z => by
  obtain ⟨f, mf, rfl⟩ := List.mem_map.mp m
  refine hide fun P' hP' => ?_
  obtain ⟨mc, ⟨ob, es', ep, g', hd', _⟩, _⟩ := (S.frs f mf).ns
  refine hP' ?_
  rw [z, e] at g'; cases g'
  exact hd _ _ hd'
theorem St.tup_free {fs : List Frm} (S : St c fs H h) {b : Addr} {items : Array Value} (t : IsTup h b items) : H b = none ∧ ∀ e ∈ fs.map (·.env), e.locals ≠ b := by
  refine hide fun P' hP' => ?_
  obtain ⟨o, e, hc, n, hd⟩ := t
  refine hP' ?_
  refine ⟨?_, S.frames_ne e fun es n' z => by rw [hd] at z; cases z⟩
  cases z : H b with
  | none => rfl
  | some ao =>
    obtain ⟨ob, eo, nc⟩ := (S.objs _ _ z).2.2.there
    rw [e] at eo; cases eo; exact absurd ⟨hc, _, _, hd⟩ nc

noncomputable def lent (own : Option (Addr × AO)) (H : AH) : AH := match own with | none => H | some p => del H p.1
theorem lent_none {own : Option (Addr × AO)} {H : AH} {b : Addr} (hown : ∀ p, own = some p → H p.1 = some p.2) (e : H b = none) : lent own H b = none := by
  cases own with
  | none => exact e
  | some p =>
    show del H p.1 b = none
    rw [del_ne]; exact e
    rintro rfl; rw [hown p rfl] at e; cases e
theorem St.lent {fs : List Frm} (S : St c fs H h) {own : Option (Addr × AO)} (hown : ∀ p, own = some p → H p.1 = some p.2) : St c fs (lent own H) h := by
  cases own with
  | none => exact S
  | some p => exact S.del (hown p rfl)
theorem Ext.lent {es : List Env} {H' : AH} {h' : Heap} (x : Ext es H h H' h') {own : Option (Addr × AO)} (hown : ∀ p, own = some p → H' p.1 = some p.2 ∧ p.2 ≠ .lent) : Ext es H h (lent own H') h' := by
  cases own with
  | none => exact x
  | some p => exact x.del (hown p rfl).1 (hown p rfl).2
/-- a new iterator: what it stands on is new, or a tuple, or ours and lent -/
theorem walkableG {A : Around} {target : Expr} {H' : AH} {h' h₁ : Heap} {am' : AEnv} {I : Addr} {fp wr : List Addr} {as : List AV} {P Md' : Nat → Value → Heap → Prop} {St' : Nat → Heap → Prop} {own : Option (Addr × AO)}
    (T : KTurns pw c.w A target I fp wr as.length P Md' St') (self : ∀ i (s : Shared) (Q : Value → Shared → Prop) (E : Value → Shared → Prop), St' i s.heap → Q (.ref I) s → wpAny (Mine.Md c) A (pyIter (.ref I)) Q E s) (st0 : St' 0 h₁) (ex : Ext (envs rest env) H h H' h') (S : St c (⟨env, am'⟩ :: rest) H' h') (k1 : Keeps h' h₁)
    (hfp : ∀ b ∈ fp, h'.get? b = none ∨ (∃ items, IsTup h' b items) ∨ ∃ ao, own = some (b, ao)) (hown : ∀ p, own = some p → H' p.1 = some p.2 ∧ p.1 ∈ fp ∧ p.2 ≠ .lent) (hwr : ∀ b ∈ wr, h'.get? b = none)
    (hst : ∀ i h, St' i h → (∀ b ∈ fp, ∃ o, h.get? b = some o) ∧ ∀ b ∈ wr, ∀ items, ¬ IsTup h b items) (hmd : ∀ i v h, Md' i v h → ∀ b ∈ wr, ∀ items, ¬ IsTup h b items)
    (hval : ∀ i v h'', TupExt h₁ h'' → P i v h'' → ∃ a, as[i]? = some a ∧ VR h'' a v) :
    Walkable c A (envs rest env) target H h (Mine.lent own H') h₁ I as own := by
  have lt : ∀ {b}, H' b = none → Mine.lent own H' b = none := fun {b} z => lent_none (fun p e => (hown p e).1) z
  have fr : ∀ {b : Addr} {o : AO}, H' b = some o → ∀ e ∈ envs rest env, e.locals ≠ b := fun z e m => by
    obtain ⟨f, mf, rfl⟩ := List.mem_map.mp (show e ∈ (⟨env, am'⟩ :: rest : List Frm).map (·.env) from m)
    exact (S.objs _ _ z).2.1 f mf
  refine ⟨_, _, _, _, _, T, self, st0, fun b m => ?_, fun b m => ⟨lt (S.outside (hwr b m)).1, ex.unused (hwr b m), (S.outside (hwr b m)).2.2⟩, hst, hmd, hval, fun p e' => ?_⟩
  · rcases hfp b m with n | ⟨items, t⟩ | ⟨ao, rfl⟩
    · have := S.outside n; exact ⟨.inl (lt this.1), this.2.1⟩
    · have := S.tup_free t; exact ⟨.inl (lt this.1), this.2⟩
    · obtain ⟨z, _, _⟩ := hown _ rfl
      exact ⟨.inr del_same, fr z⟩
  · obtain ⟨z, zf, nl⟩ := hown p e'
    obtain ⟨ob, eo, _⟩ := (S.objs _ _ z).2.2.there
    have z0 : free H p.1 → h.get? p.1 = none := fun n => by
      cases g : h.get? p.1 with
      | none => rfl
      | some o =>
        have := (ex.keep _ _ g n (fr z)).2
        exact absurd rfl ((n.of_eq this).ne z nl)
    exact ⟨z0, zf, (fun m => by rw [hwr _ m] at eo; cases eo), (S.objs _ _ z).2.2.mono k1.tup fun ob => k1 _ _, (S.objs _ _ z).1⟩
/-- an iterator that one new object is -/
theorem walkable1 {A : Around} {target : Expr} {H' : AH} {h' h₁ : Heap} {am' : AEnv} {I : Addr} {as : List AV} {n : Nat} {T : String} {fp : List Addr} {P : Nat → Value → Prop} {St' : Nat → Heap → Prop} {own : Option (Addr × AO)}
    (W : Walks pw c.w A I fp [I] n P St') (hn : n = as.length) (hT : ownTuple T = false) (hT' : T ≠ "tuple") (hst : ∀ i h, St' i h → (∃ o vs, h.get? I = some o ∧ o.cls = .type T ∧ o.data = .fields vs) ∧ ∀ b ∈ fp, ∃ o, h.get? b = some o)
    (st0 : St' 0 h₁) (ex : Ext (envs rest env) H h H' h') (S : St c (⟨env, am'⟩ :: rest) H' h') (nI : h'.get? I = none) (k1 : Keeps h' h₁)
    (hfp : ∀ b ∈ fp, h'.get? b = none ∨ (∃ items, IsTup h' b items) ∨ ∃ ao, own = some (b, ao)) (hown : ∀ p, own = some p → H' p.1 = some p.2 ∧ p.1 ∈ fp ∧ p.2 ≠ .lent)
    (hval : ∀ i v h'', TupExt h₁ h'' → P i v → ∃ a, as[i]? = some a ∧ VR h'' a v) :
    Walkable c A (envs rest env) target H h (Mine.lent own H') h₁ I as own := by
  subst hn
  have nt : ∀ i h, St' i h → ∀ b ∈ [I], ∀ items, ¬ IsTup h b items := fun i h st b m => by
    rw [List.mem_singleton.mp m]
    refine hide fun P' hP' => ?_
    obtain ⟨⟨ob, vs, ho, hc, _⟩, _⟩ := hst _ _ st
    refine hP' ?_
    exact not_tup ho hc hT'
  refine walkableG (KTurns.ofWalks (target := target) W fun i v s Q E st q => ?_) W.self st0 ex S k1 hfp hown (fun b m => by rw [List.mem_singleton.mp m]; exact nI) (fun i h st => ⟨(hst i h st).2, nt i h st⟩) (fun i v h st => nt _ h st.2) (fun i v h'' tx hP => hval i v h'' tx hP)
  refine hide fun P' hP' => ?_
  obtain ⟨⟨ob, vs, ho, hc, hd⟩, _⟩ := hst _ _ st
  refine hP' ?_
  exact letGo_plain ho hc hd hT q
theorem items_val {h₁ h' h'' : Heap} {as : List AV} {vs : List Value} {i : Nat} {v : Value} (rv : VRs h' as vs) (k1 : TupExt h' h₁) (tx : TupExt h₁ h'') (hP : vs.toArray[i]? = some v) : ∃ a, as[i]? = some a ∧ VR h'' a v := by
  have hv : vs[i]? = some v := by simpa using hP
  have hi : i < as.length := by have := (List.getElem?_eq_some_iff.mp hv).1; rwa [rv.length] at this
  obtain ⟨u, hu, ru⟩ := rv.get (List.getElem?_eq_getElem hi)
  rw [hv] at hu; cases hu
  exact ⟨_, List.getElem?_eq_getElem hi, ru.mono (k1.trans tx)⟩

/-- an iterator of a list -/
theorem WI_list {target iter : Expr} {Q : List AV → Option (Addr × AO) → AEnv → AH → Prop}
    (w : W c k rest env RV (eval iter env) am H fun a am' H' => ∃ l as, a = .ref l ∧ H' l = some (.list as) ∧ Q as (some (l, .list as)) am' (del H' l)) : WI c k rest env target iter am H Q := fun A s E o a S =>
  w.step o a S fun v b am' H' h' tk r x S' q => by
    obtain ⟨l, as, rfl, hl, q⟩ := q
    subst r
    refine hide fun P' hP' => ?_
    obtain ⟨g, fr, vs, n, e, rv⟩ := S'.objs _ _ hl
    refine hP' ?_
    have L : h'.IsList l vs.toArray := ⟨_, e, rfl, n, rfl⟩
    refine wpAny_pyIter_list (s := { s with heap := h', toks := tk }) L ?_
    have k1 : Keeps h' (h'.push { cls := .type "list_iterator", data := .fields #[.ref l, .int 0 0] }) := Keeps.push _ _
    have nI : h'.get? h'.objs.size = none := Heap.get?_none_of_le (Nat.le_refl _)
    have hne : l ≠ h'.objs.size := Nat.ne_of_lt (Heap.lt_size e)
    have hlen : vs.toArray.size = as.length := by rw [List.size_toArray]; exact rv.length
    refine ⟨h'.objs.size, as, some (l, .list as), am', del H' l, _, tk, rfl, rfl, (x.trans (.of_keeps k1)).del hl (by simp), (S'.keeps k1).del hl,
      walkable1 (own := some (l, .list as)) (T := "list_iterator") (Walks.list a.handled h'.objs.size l hne vs.toArray) hlen (by decide) (by decide) (fun i h st => ?_) ⟨⟨_, Heap.get?_push_size _ rfl, rfl, rfl⟩, L.at fun o e => k1 _ _ e⟩ x S' nI k1 (fun b m => ?_) (fun p e' => ?_) (fun i v h'' tx hP => items_val rv k1.tup tx hP), q⟩
    · obtain ⟨⟨ob, ho, hc, hd⟩, ⟨ol, hl, _⟩⟩ := st; exact ⟨⟨ob, _, ho, hc, hd⟩, by simp only [List.mem_cons, List.mem_nil_iff, or_false]; rintro b (rfl | rfl) <;> exact ⟨_, by assumption⟩⟩
    · rcases List.mem_cons.mp m with rfl | m
      · exact .inl nI
      · rw [List.mem_singleton.mp m]; exact .inr (.inr ⟨_, rfl⟩)
    · cases e'; exact ⟨hl, by simp, by simp⟩
/-- an iterator of a tuple -/
theorem WI_tuple {target iter : Expr} {Q : List AV → Option (Addr × AO) → AEnv → AH → Prop}
    (w : W c k rest env RV (eval iter env) am H fun a am' H' => ∃ as, a = .tup as ∧ Q as none am' H') : WI c k rest env target iter am H Q := fun A s E o a S =>
  w.step o a S fun v b am' H' h' tk r x S' q => by
    obtain ⟨as, rfl, q⟩ := q
    obtain ⟨l, vs, rfl, L, rv⟩ := r
    have ⟨ol, e, hcl, n, hdl⟩ := id L
    refine wpAny_pyIter_tuple (s := { s with heap := h', toks := tk }) L ?_
    have k1 : Keeps h' (h'.push { cls := .type "tuple_iterator", data := .fields #[.ref l, .int 0 0] }) := Keeps.push _ _
    have nI : h'.get? h'.objs.size = none := Heap.get?_none_of_le (Nat.le_refl _)
    have hne : l ≠ h'.objs.size := Nat.ne_of_lt (Heap.lt_size e)
    have hlen : vs.toArray.size = as.length := by rw [List.size_toArray]; exact rv.length
    refine ⟨h'.objs.size, as, none, am', H', _, tk, rfl, rfl, x.trans (.of_keeps k1), S'.keeps k1,
      walkable1 (own := none) (T := "tuple_iterator") (Walks.tuple a.handled h'.objs.size l hne vs.toArray) hlen (by decide) (by decide) (fun i h st => ?_) ⟨⟨_, Heap.get?_push_size _ rfl, rfl, rfl⟩, L.keeps k1⟩ x S' nI k1 (fun b m => ?_) (fun p e' => by cases e') (fun i v h'' tx hP => items_val rv k1.tup tx hP), q⟩
    · obtain ⟨⟨ob, ho, hc, hd⟩, ⟨ol, hl, _⟩⟩ := st; exact ⟨⟨ob, _, ho, hc, hd⟩, by simp only [List.mem_cons, List.mem_nil_iff, or_false]; rintro b (rfl | rfl) <;> exact ⟨_, by assumption⟩⟩
    · rcases List.mem_cons.mp m with rfl | m
      · exact .inl nI
      · rw [List.mem_singleton.mp m]; exact .inr (.inl ⟨_, L⟩)
noncomputable def chars (x : Str) : List AV := x.cps.toList.map fun c => .str ⟨#[c]⟩
/-- an iterator of a text -/
theorem WI_str {target iter : Expr} {Q : List AV → Option (Addr × AO) → AEnv → AH → Prop}
    (w : W c k rest env RV (eval iter env) am H fun a am' H' => ∃ x, a = .str x ∧ Q (chars x) none am' H') : WI c k rest env target iter am H Q := fun A s E o a S =>
  w.step o a S fun v b am' H' h' tk r x S' q => by
    obtain ⟨y, rfl, q⟩ := q
    obtain ⟨t, rfl⟩ := r
    have nI : h'.get? h'.objs.size = none := Heap.get?_none_of_le (Nat.le_refl _)
    have val : ∀ {h₁ h'' : Heap} i v, SignAt y i v → ∃ a, (chars y)[i]? = some a ∧ VR h'' a v := fun {h₁ h''} i v ⟨ch, u, e, e'⟩ => ⟨.str ⟨#[ch]⟩, by
      unfold chars; rw [List.getElem?_map, Array.getElem?_toList, e]; rfl, by exact ⟨u, e'⟩⟩
    have len : y.cps.size = (chars y).length := by unfold chars; rw [List.length_map, Array.length_toList]
    have key : ∀ T : String, (T = "str_ascii_iterator" ∨ T = "str_iterator") → Walks pw c.w A h'.objs.size [h'.objs.size] [h'.objs.size] y.cps.size (SignAt y) (fun i h => h.IsStrIter h'.objs.size T y t i) →
        WIP c rest env target A H Q s (.ref h'.objs.size) { s with heap := h'.push { cls := .type T, data := .fields #[.str y t, .int 0 0] }, toks := tk } := fun T hT W => by
      have k1 : Keeps h' (h'.push { cls := .type T, data := .fields #[.str y t, .int 0 0] }) := Keeps.push _ _
      refine ⟨h'.objs.size, chars y, none, am', H', _, tk, rfl, rfl, x.trans (.of_keeps k1), S'.keeps k1,
        walkable1 (own := none) (T := T) W len (by rcases hT with rfl | rfl <;> decide) (by rcases hT with rfl | rfl <;> decide) (fun i h st => ?_) ⟨_, Heap.get?_push_size _ rfl, rfl, rfl⟩ x S' nI k1 (fun b m => ?_) (fun p e' => by cases e') (fun i v h'' tx hP => val (h₁ := h') i v hP), q⟩
      · refine hide fun P' hP' => ?_
        obtain ⟨ob, ho, hc, hd⟩ := st
        refine hP' ?_
        exact ⟨⟨ob, _, ho, hc, hd⟩, fun b m => by rw [List.mem_singleton.mp m]; exact ⟨_, ho⟩⟩
      · rw [List.mem_singleton.mp m]; exact .inl nI
    cases ha : y.cps.all (· < 128)
    · exact wpAny_pyIter_wide (s := { s with heap := h', toks := tk }) ha (key _ (.inr rfl) (Walks.strWide a.handled _ y t))
    · exact wpAny_pyIter_ascii (s := { s with heap := h', toks := tk }) ha (key _ (.inl rfl) (Walks.strAscii a.handled _ y t))
theorem All2.get {α β : Type} {R : α → β → Prop} {l : List α} {r : List β} (x : All2 R l r) : ∀ {i : Nat} {b : β}, r[i]? = some b → ∃ a, l[i]? = some a ∧ R a b := by
  induction x with
  | nil => intro i b e; simp at e
  | cons p _ ih =>
    intro i b e
    cases i with
    | zero => simp at e; subst e; exact ⟨_, rfl, p⟩
    | succ i => simp at e; exact ih (i := i) e
/-- an iterator of a dict's keys -/
theorem WI_dict {target iter : Expr} {Q : List AV → Option (Addr × AO) → AEnv → AH → Prop}
    (w : W c k rest env RV (eval iter env) am H fun a am' H' => ∃ d l, a = .ref d ∧ H' d = some (.dict l) ∧ Q (l.map fun p => .str p.1) (some (d, .dict l)) am' (del H' d)) : WI c k rest env target iter am H Q := fun A s E o a S =>
  w.step o a S fun v b am' H' h' tk r x S' q => by
    obtain ⟨d, l, rfl, hl, q⟩ := q
    subst r
    refine hide fun P' hP' => ?_
    obtain ⟨g, fr, sm, kvs, D, rv⟩ := S'.objs _ _ hl
    refine hP' ?_
    obtain ⟨ep, D'⟩ := D.dictAt
    refine wpAny_pyIter_dict (s := { s with heap := h', toks := tk }) sm D' ?_
    have k1 : Keeps h' (h'.push { cls := .type "dict_keyiterator", data := .fields #[.ref d, .int 0 0, .int kvs.length 0, .int ep 0] }) := Keeps.push _ _
    have nI : h'.get? h'.objs.size = none := Heap.get?_none_of_le (Nat.le_refl _)
    have hne : d ≠ h'.objs.size := Nat.ne_of_lt D'.lt_size
    have hlen : kvs.length = (l.map fun p => AV.str p.1).length := by rw [List.length_map, rv.len]
    refine ⟨h'.objs.size, _, some (d, .dict l), am', del H' d, _, tk, rfl, rfl, (x.trans (.of_keeps k1)).del hl (by simp), (S'.keeps k1).del hl,
      walkable1 (own := some (d, .dict l)) (T := "dict_keyiterator") (Walks.dictKeys a.handled h'.objs.size d hne kvs ep) hlen (by decide) (by decide) (fun i h st => ?_) ⟨⟨_, Heap.get?_push_size _ rfl, rfl, rfl⟩, D'.at' fun o e => k1 _ _ e⟩ x S' nI k1 (fun b m => ?_) (fun p e' => ?_) (fun i v h'' tx hP => ?_), q⟩
    · obtain ⟨⟨ob, ho, hc, hd⟩, ⟨ol, es, hl, _⟩⟩ := st; exact ⟨⟨ob, _, ho, hc, hd⟩, by simp only [List.mem_cons, List.mem_nil_iff, or_false]; rintro b (rfl | rfl) <;> exact ⟨_, by assumption⟩⟩
    · rcases List.mem_cons.mp m with rfl | m
      · exact .inl nI
      · rw [List.mem_singleton.mp m]; exact .inr (.inr ⟨_, rfl⟩)
    · cases e'; exact ⟨hl, by simp, by simp⟩
    · refine hide fun P' hP' => ?_
      obtain ⟨key, y, hk, hs⟩ := hP
      refine hP' ?_
      obtain ⟨t, rfl⟩ := Value.isStrOf_shape hs
      refine hide fun P' hP' => ?_
      obtain ⟨p, hp, e1, _⟩ := rv.get hk
      refine hP' ?_
      exact ⟨.str key, by rw [List.getElem?_map, hp]; simp only [Option.map_some]; rw [e1], by exact ⟨t, rfl⟩⟩
theorem enumDraw {A : Around} (hh : A.handled = none) (it l : Addr) (hne : l ≠ it) (items : Array Value) :
    Draws pw c.w A it [it, l] items.size (fun i v => items[i]? = some v) (fun i h => h.IsTupleIter it l i ∧ h.IsTuple l items) where
  live := fun _ _ st => let ⟨o, ho, _⟩ := st.1; ⟨o, ho⟩
  frame := fun _ _ _ st hk => ⟨st.1.at fun o e => hk it (by simp) o e, st.2.at fun o e => hk l (by simp) o e⟩
  item := fun i s Q E hi st hQ => by
    obtain ⟨hit, ht⟩ := id st
    have hx : items[i]? = some items[i] := by simp [hi]
    refine hide fun P' hP' => ?_
    obtain ⟨o, ho, hc, hd⟩ := id hit
    refine hP' ?_
    refine hide fun P' hP' => ?_
    obtain ⟨ol, hol, _, nl, hdl⟩ := id ht
    refine hP' ?_
    unfold Builtin.SmallTypes.nextOf
    refine wpAny_bind (wpAny_callSpecial?_slot (name := Str.ofString "__next__") hit.typeIs PySem.F.slot_tuple_iterator_next
      (wpAny_call_entry PySem.F.slot_tuple_iterator_next hit.typeIs PySem.F.entry_tuple_iterator_next ?_ (PySem.F.args_tuple_iterator_next_1 _)))
    show wpAny _ _ (field (.ref it) 0 >>= _) _ _ s
    refine wpAny_bind (wpAny_field ho hd (x := .ref l) rfl ?_)
    show wpAny _ _ (if (Value.ref l == Value.none) = true then _ else _) _ _ s
    rw [if_neg (show ¬ ((Value.ref l == Value.none) = true) from Bool.false_ne_true)]
    show wpAny _ _ (field (.ref it) 1 >>= _) _ _ s
    refine wpAny_bind (wpAny_field ho hd (x := .int i 0) rfl ?_)
    show wpAny _ _ (seqItems? (.ref l) >>= _) _ _ s
    refine wpAny_bind (wpAny_seqItems hol hdl ?_)
    simp only [Int.toNat_natCast, hx]
    refine wpAny_bind (wpAny_setField ho hd (by simp) (wpAny_pure ⟨_, rfl, wpAny_pure (hQ _ _ _ hx ⟨?_, ht.extBut (Heap.SameBut.update ..).extBut hne⟩ (Heap.SameBut.update ..))⟩))
    exact ⟨_, Heap.get?_update_self _ ho (Obj.isFreed_of_fields (Obj.data_mapFields hd _)), (Obj.cls_mapFields ..).trans hc, by
      rw [Obj.data_mapFields hd]; simp [rawInt]⟩
  done := fun s Q E st hE => by
    obtain ⟨hit, ht⟩ := id st
    have hx : items[items.size]? = none := by simp
    refine hide fun P' hP' => ?_
    obtain ⟨o, ho, hc, hd⟩ := id hit
    refine hP' ?_
    refine hide fun P' hP' => ?_
    obtain ⟨ol, hol, _, nl, hdl⟩ := id ht
    refine hP' ?_
    unfold Builtin.SmallTypes.nextOf
    refine wpAny_bind (wpAny_callSpecial?_slot (name := Str.ofString "__next__") hit.typeIs PySem.F.slot_tuple_iterator_next
      (wpAny_call_entry PySem.F.slot_tuple_iterator_next hit.typeIs PySem.F.entry_tuple_iterator_next ?_ (PySem.F.args_tuple_iterator_next_1 _)))
    show wpAny _ _ (field (.ref it) 0 >>= _) _ _ s
    refine wpAny_bind (wpAny_field ho hd (x := .ref l) rfl ?_)
    show wpAny _ _ (if (Value.ref l == Value.none) = true then _ else _) _ _ s
    rw [if_neg (show ¬ ((Value.ref l == Value.none) = true) from Bool.false_ne_true)]
    show wpAny _ _ (field (.ref it) 1 >>= _) _ _ s
    refine wpAny_bind (wpAny_field ho hd (x := .int items.size 0) rfl ?_)
    show wpAny _ _ (seqItems? (.ref l) >>= _) _ _ s
    refine wpAny_bind (wpAny_seqItems hol hdl ?_)
    simp only [Int.toNat_natCast, hx]
    refine wpAny_bind (wpAny_rule (wpAny_bind (wpAny_setField ho hd (by simp) ?_)))
    show wpAny _ _ (newExc (.type "StopIteration") [] >>= _) _ _ _
    refine wpAny_bind ?_
    simp only [newExc, newTuple]
    refine wpAny_bind (wpAny_newObj_type ?_ (by size_fits))
    refine wpAny_bind (m := firstArgMember _ _) (wpAny_of_eq (a := Value.none) (by first | rfl | (simp only [firstArgMember]; rfl)) ?_)
    refine wpAny_newObj_type ?_ (by size_fits)
    refine wpAny_raiseNew_none hh ?_
    exact hE _ _ (((Heap.SameBut.update ..).extBut.push _).push _) ⟨_, Heap.get?_push_size _ rfl, rfl⟩
open AutoSeq1 (wpAny_loadPart') in
theorem meets_enumT (l : Addr) (items : Array Value) :
    Meets (Builtin.«enumerate.__new__» ⟨[.type "enumerate", .ref l], []⟩) (fun _ R s => s.heap.IsTuple l items ∧
      R (.ok (.ret (.ref (s.heap.push { cls := .type "tuple_iterator", data := .fields #[.ref l, .int 0 0] }).objs.size)))
        { s with heap := (s.heap.push { cls := .type "tuple_iterator", data := .fields #[.ref l, .int 0 0] }).push { cls := .type "enumerate", data := .fields #[.none, .bool false, .ref s.heap.objs.size, rawInt 0, .none, .none] } }) :=
  .of_wp fun prog w A R s h => by
    obtain ⟨hp, g, d, tk, os⟩ := s; obtain ⟨hL, h⟩ := h
    refine hide fun P' hP' => ?_
    obtain ⟨o, hl, hc, n, hd⟩ := id hL
    refine hP' ?_
    have hsub := sub_enumerate
    wp_walk using wpAny_loadPart' hl
    refine wpAny_stack_any fun st => wpAny_pure ?_
    generalize PySem.Builtin.SmallTypes.calledThroughType.match_1 _ _ _ _ = b
    cases b
    · wp_walk using wpAny_loadPart' hl, wpAny_pyIter_tuple hL
      exact ⟨_, rfl, h⟩
    · wp_walk using wpAny_loadPart' hl, wpAny_pyIter_tuple hL
      exact ⟨_, rfl, h⟩
theorem call_enumT {p : Program} {w : World} {A : Around} {E : Value → Shared → Prop} {s : Shared} {l : Addr} {items : Array Value} {Q : Value → Shared → Prop} (hL : s.heap.IsTuple l items)
    (h : ∀ h', IsEnum h' (s.heap.objs.size + 1) s.heap.objs.size 0 .none → h'.IsTupleIter s.heap.objs.size l 0 → (∀ b o, s.heap.get? b = some o → h'.get? b = some o) → Q (.ref (s.heap.objs.size + 1)) { s with heap := h' }) :
    wpAny (model p w) A (call (.type "enumerate") [.ref l]) Q E s := by
  refine callType_new PySem.F.called_enumerate (by decide) (PySem.F.typeCall_enumerate_1 _) (PySem.F.newCall_enumerate_1 _) (fun obj => PySem.F.args_object_init_2 obj _) PySem.F.entry_enumerate_new
    (meets_enumT l items) ⟨hL, ?_⟩
  have hz : (s.heap.push { cls := .type "tuple_iterator", data := .fields #[.ref l, .int 0 0] }).objs.size = s.heap.objs.size + 1 := Heap.size_push ..
  show _ ∧ _
  rw [hz]
  have he : IsEnum ((s.heap.push { cls := .type "tuple_iterator", data := .fields #[.ref l, .int 0 0] }).push
      { cls := .type "enumerate", data := .fields #[.none, .bool false, .ref s.heap.objs.size, rawInt 0, .none, .none] }) (s.heap.objs.size + 1) s.heap.objs.size 0 .none := by
    have := Heap.get?_push_size (s.heap.push { cls := .type "tuple_iterator", data := .fields #[.ref l, .int 0 0] })
      (o := { cls := .type "enumerate", data := .fields #[.none, .bool false, .ref s.heap.objs.size, rawInt 0, .none, .none] }) rfl
    rw [hz] at this; exact this
  exact ⟨⟨_, he, rfl⟩, h _ he ⟨_, Heap.get?_push_of_some _ (Heap.get?_push_size _ rfl), rfl, rfl⟩ fun b o x => Heap.get?_push_of_some _ (Heap.get?_push_of_some _ x)⟩

/-- pairs of a place and an item -/
noncomputable def enumA : List AV → Nat → List AV
  | [], _ => []
  | a :: l, i => .tup [.int i, a] :: enumA l (i + 1)
theorem enumA_length : ∀ (l : List AV) (i : Nat), (enumA l i).length = l.length
  | [], _ => rfl
  | a :: l, i => by simp [enumA, enumA_length l (i + 1)]
theorem enumA_get : ∀ {l : List AV} {i j : Nat} {a : AV}, l[j]? = some a → (enumA l i)[j]? = some (.tup [.int (i + j : Nat), a])
  | [], _, _, _, e => by simp at e
  | b :: l, i, 0, a, e => by simp at e; subst e; simp [enumA]
  | b :: l, i, j + 1, a, e => by
    simp only [List.getElem?_cons_succ] at e
    simp only [enumA, List.getElem?_cons_succ]
    rw [enumA_get e, show i + 1 + j = i + (j + 1) by lia]
theorem pair_val {h₁ h' h'' : Heap} {as : List AV} {vs : List Value} {i : Nat} {v : Value} (rv : VRs h' as vs) (k1 : TupExt h' h₁) (tx : TupExt h₁ h'') (hP : ∃ T vals, v = .ref T ∧ (∃ t x, vs.toArray[i]? = some x ∧ vals = #[.int i t, x]) ∧ h''.IsTuple T vals) : ∃ a, (enumA as 0)[i]? = some a ∧ VR h'' a v := by
  obtain ⟨T, vals, rfl, ⟨t, x, hx, rfl⟩, hT⟩ := hP
  obtain ⟨a, ha, ra⟩ := items_val rv k1 tx hx
  refine ⟨_, enumA_get ha, ?_⟩
  exact ⟨T, [.int i t, x], rfl, hT, _, _, rfl, ⟨t, by simp⟩, _, _, rfl, ra, rfl⟩

/-- the iteration by enumerate, once it is made -/
theorem enum_it {A : Around} {target : Expr} {elts : List Expr} {kk : Nat} {tpos : Pos} {H' : AH} {h' h₁ : Heap} {am' : AEnv} {l : Addr} {as : List AV} {vs : List Value} {tk : Nat} {own : Option (Addr × AO)} {s : Shared} {E : Value → Shared → Prop} {e it : Addr} {It : Nat → Heap → Prop} {Q : List AV → Option (Addr × AO) → AEnv → AH → Prop}
    (D : Draws pw c.w A.in1 it [it, l] vs.toArray.size (fun i v => vs.toArray[i]? = some v) It) (rv : VRs h' as vs) (ht : target = .Tuple elts kk tpos)
    (hIt : ∀ i h, It i h → (∃ o T, h.get? it = some o ∧ o.cls = .type T ∧ T ≠ "tuple") ∧ ∃ o, h.get? l = some o)
    (ex : Ext (envs rest env) H s.heap H' h') (S : St c (⟨env, am'⟩ :: rest) H' h') (k1 : Keeps h' h₁) (he : IsEnum h₁ e it 0 .none) (h0 : It 0 h₁) (ne : h'.get? e = none) (ni : h'.get? it = none) (hei : e ≠ it) (hel : e ≠ l)
    (hl : (∃ items, IsTup h' l items) ∨ ∃ ao, own = some (l, ao)) (hown : ∀ p, own = some p → H' p.1 = some p.2 ∧ p.1 = l ∧ p.2 ≠ .lent) (q : Q (enumA as 0) own am' (lent own H')) :
    wpAny (Md c) A (pyIter (.ref e)) (fun it s₂ => WIP c rest env target A H Q s it s₂) E { s with heap := h₁, toks := tk } := by
  subst ht
  have U := (WalksT.enumerateD D e hei (by simp [hei, hel]) (by simp)).toU
  have T := KTurns.ofWalksU (elts := elts) (k := kk) (pos := tpos) U
  have hlen : vs.toArray.size = (enumA as 0).length := by rw [enumA_length, List.size_toArray, rv.length]
  rw [hlen] at T
  refine wpAny_pyIter_enum (s := { s with heap := h₁, toks := tk }) he ⟨e, enumA as 0, own, am', lent own H', h₁, tk, rfl, rfl, (ex.trans (.of_keeps k1)).lent (fun p e => ⟨(hown p e).1, (hown p e).2.2⟩), (S.keeps k1).lent (fun p e => (hown p e).1), ?_, q⟩
  have enc : ∀ {h : Heap} {i : Int} {old : Value}, IsEnum h e it i old → ∃ o, h.get? e = some o ∧ o.cls = .type "enumerate" := fun x => ⟨_, x, rfl⟩
  have out : ∀ {h : Heap} {i : Int} {x : Value} {T : Addr}, IsEnumOut h e it i x T → ∃ o, h.get? e = some o ∧ o.cls = .type "enumerate" := fun x => ⟨_, x, rfl⟩
  refine walkableG (own := own) T U.self ⟨⟨_, he⟩, h0⟩ ex S k1 (fun b m => ?_) (fun p e' => ?_) (fun b m => ?_) (fun i h st => ⟨fun b m => ?_, fun b m => ?_⟩) (fun i v h st b m => ?_) (fun i v h'' tx hP => pair_val rv k1.tup tx ?_)
  · rcases List.mem_cons.mp m with rfl | m
    · exact .inl ne
    · rcases List.mem_cons.mp m with rfl | m
      · exact .inl ni
      · rw [List.mem_singleton.mp m]; exact .inr hl
  · obtain ⟨b, rfl, nl⟩ := hown p e'
    exact ⟨b, by simp, nl⟩
  · rcases List.mem_cons.mp m with rfl | m
    · exact ne
    · rw [List.mem_singleton.mp m]; exact ni
  · obtain ⟨⟨old, z⟩, z'⟩ := st
    refine hide fun P' hP' => ?_
    obtain ⟨⟨o, T, e1, e2, _⟩, e3⟩ := hIt _ _ z'
    refine hP' ?_
    rcases List.mem_cons.mp m with rfl | m
    · obtain ⟨o, e, _⟩ := enc z; exact ⟨o, e⟩
    · rcases List.mem_cons.mp m with rfl | m
      · exact ⟨o, e1⟩
      · rw [List.mem_singleton.mp m]; exact e3
  · obtain ⟨⟨old, z⟩, z'⟩ := st
    refine hide fun P' hP' => ?_
    obtain ⟨⟨o, T, e1, e2, e4⟩, e3⟩ := hIt _ _ z'
    refine hP' ?_
    rcases List.mem_cons.mp m with rfl | m
    · obtain ⟨o, e, hc⟩ := enc z; exact not_tup e hc (by decide)
    · rw [List.mem_singleton.mp m]; exact not_tup e1 e2 e4
  · obtain ⟨T, vals, rfl, _, _, ⟨x, z⟩, z', _⟩ := st
    refine hide fun P' hP' => ?_
    obtain ⟨⟨o, T, e1, e2, e4⟩, e3⟩ := hIt _ _ z'
    refine hP' ?_
    rcases List.mem_cons.mp m with rfl | m
    · obtain ⟨o, e, hc⟩ := out z; exact not_tup e hc (by decide)
    · rw [List.mem_singleton.mp m]; exact not_tup e1 e2 e4
  · exact hP

theorem boot_enum : bootBuiltins "enumerate" = some (.type "enumerate") := by decide +kernel
theorem W_enumName {npos : Pos} (hk : env.kindOf "enumerate" = some .globalImplicit) (hg : env.globals = mainGlobals) (hb : env.builtins = builtinsNs) :
    W c k rest env RV (eval (.Name "enumerate" npos) env) am H fun b am' H' => b = .at (.type "enumerate") ∧ am' = am ∧ H' = H :=
  W_boot (v := .type "enumerate") (fun P => by rfl) boot_enum ⟨rfl, rfl, rfl⟩ (by decide) hg hb hk
/-- enumerate of a tuple -/
theorem WI_enumT {target e : Expr} {elts : List Expr} {kk : Nat} {tpos npos pos : Pos} {Q : List AV → Option (Addr × AO) → AEnv → AH → Prop}
    (w : W c k rest env RV (eval e env) am H fun a am' H' => ∃ as, a = .tup as ∧ Q (enumA as 0) none am' H') (ht : target = .Tuple elts kk tpos := by rfl) (hk : env.kindOf "enumerate" = some .globalImplicit := by rfl) (hg : env.globals = mainGlobals := by rfl) (hb : env.builtins = builtinsNs := by rfl)
    (he : starEach [e] env = (false, eval e env) :: starEach [] env := by rfl)
    (hc : eval (.Call (.Name "enumerate" npos) [e] [] pos) env = (do callWith pos (← eval (.Name "enumerate" npos) env) [] (backTo pos (starEach [e] env)) (backToKw pos (keywordEach [] env))) := by rfl) :
    WI c k rest env target (.Call (.Name "enumerate" npos) [e] [] pos) am H Q := fun A s E o a S => by
  refine Call_ ((W_enumName hk hg hb).step o a S fun v b am₁ H₁ h₁ tk₁ r x₁ S₁ q₁ => ?_) hc
  obtain ⟨rfl, rfl, rfl⟩ := q₁
  subst r
  refine PyProof.Rows.callWith_type1 (W.step (W_items_cons (Q := fun as am' H' => ∃ l, as = [.tup l] ∧ Q (enumA l 0) none am' H') (w.mono fun a am H ⟨as, e, q⟩ => W_items_nil ⟨as, by rw [e], q⟩) he) o a S₁ fun vs as am₂ H₂ h₂ tk₂ r x₂ S₂ q₂ => ?_) he rfl
  obtain ⟨l, rfl, q⟩ := q₂
  obtain ⟨_, _, rfl, ⟨t, xs, rfl, ht', rx⟩, rfl⟩ := r
  refine call_enumT (s := { s with heap := h₂, toks := tk₂ }) ht' fun h₃ he3 hi3 k3 => ?_
  have hlt : t < h₂.objs.size := by obtain ⟨o, e, _⟩ := ht'; exact Heap.lt_size e
  refine enum_it (own := none) (D := enumDraw (A := A.in1) a.handled h₂.objs.size t (Nat.ne_of_lt hlt) xs.toArray) rx ht (fun i h st => ?_) (x₁.trans x₂) S₂ k3 he3 ⟨hi3, ht'.keeps k3⟩ (Heap.get?_none_of_le (Nat.le_succ _)) (Heap.get?_none_of_le (Nat.le_refl _)) (Nat.succ_ne_self _) (Nat.ne_of_gt (Nat.lt_succ_of_lt hlt)) (.inl ⟨_, ht'⟩) (fun p e => by cases e) q
  refine hide fun P' hP' => ?_
  obtain ⟨⟨o, e1, e2, _⟩, ⟨o', e3, _⟩⟩ := st
  refine hP' ?_
  exact ⟨⟨o, _, e1, e2, by decide⟩, o', e3⟩
/-- enumerate of a list -/
theorem WI_enumL {target e : Expr} {elts : List Expr} {kk : Nat} {tpos npos pos : Pos} {Q : List AV → Option (Addr × AO) → AEnv → AH → Prop}
    (w : W c k rest env RV (eval e env) am H fun a am' H' => ∃ l as, a = .ref l ∧ H' l = some (.list as) ∧ Q (enumA as 0) (some (l, .list as)) am' (del H' l)) (ht : target = .Tuple elts kk tpos := by rfl) (hk : env.kindOf "enumerate" = some .globalImplicit := by rfl) (hg : env.globals = mainGlobals := by rfl) (hb : env.builtins = builtinsNs := by rfl)
    (he : starEach [e] env = (false, eval e env) :: starEach [] env := by rfl)
    (hc : eval (.Call (.Name "enumerate" npos) [e] [] pos) env = (do callWith pos (← eval (.Name "enumerate" npos) env) [] (backTo pos (starEach [e] env)) (backToKw pos (keywordEach [] env))) := by rfl) :
    WI c k rest env target (.Call (.Name "enumerate" npos) [e] [] pos) am H Q := fun A s E o a S => by
  refine Call_ ((W_enumName hk hg hb).step o a S fun v b am₁ H₁ h₁ tk₁ r x₁ S₁ q₁ => ?_) hc
  obtain ⟨rfl, rfl, rfl⟩ := q₁
  subst r
  refine PyProof.Rows.callWith_type1 (W.step (W_items_cons (Q := fun as am' H' => ∃ l xs, as = [.ref l] ∧ H' l = some (.list xs) ∧ Q (enumA xs 0) (some (l, .list xs)) am' (del H' l)) (w.mono fun a am H ⟨l, as, e, z', q⟩ => W_items_nil ⟨l, as, by rw [e], z', q⟩) he) o a S₁ fun vs as am₂ H₂ h₂ tk₂ r x₂ S₂ q₂ => ?_) he rfl
  obtain ⟨l, ys, rfl, z, q⟩ := q₂
  obtain ⟨_, _, rfl, rfl, rfl⟩ := r
  refine hide fun P' hP' => ?_
  obtain ⟨g, fr, xs, n, e2, rx⟩ := S₂.objs _ _ z
  refine hP' ?_
  have L : h₂.IsList l xs.toArray := ⟨_, e2, rfl, n, rfl⟩
  refine call_enumerate_list (s := { s with heap := h₂, toks := tk₂ }) L fun h₃ he3 hi3 _ k3 => ?_
  have hlt : l < h₂.objs.size := Heap.lt_size e2
  refine enum_it (own := some (l, .list ys)) (D := Draws.list (A := A.in1) a.handled h₂.objs.size l (Nat.ne_of_lt hlt) xs.toArray) rx ht (fun i h st => ?_) (x₁.trans x₂) S₂ k3 he3 ⟨hi3, L.at fun o e => k3 _ _ e⟩ (Heap.get?_none_of_le (Nat.le_succ _)) (Heap.get?_none_of_le (Nat.le_refl _)) (Nat.succ_ne_self _) (Nat.ne_of_gt (Nat.lt_succ_of_lt hlt)) (.inr ⟨_, rfl⟩) (fun p e => by cases e; exact ⟨z, rfl, by simp⟩) q
  refine hide fun P' hP' => ?_
  obtain ⟨⟨o, e1, e2, _⟩, ⟨o', e3, _⟩⟩ := st
  refine hP' ?_
  exact ⟨⟨o, _, e1, e2, by decide⟩, o', e3⟩
theorem boot_range : bootBuiltins "range" = some (.type "range") := by decide +kernel
noncomputable def rangeA (n : Nat) : List AV := (List.range n).map fun i : Nat => .int (i : Int)
theorem W_rangeName {npos : Pos} (hk : env.kindOf "range" = some .globalImplicit) (hg : env.globals = mainGlobals) (hb : env.builtins = builtinsNs) :
    W c k rest env RV (eval (.Name "range" npos) env) am H fun b am' H' => b = .at (.type "range") ∧ am' = am ∧ H' = H :=
  W_boot (v := .type "range") (fun P => by rfl) boot_range ⟨rfl, rfl, rfl⟩ (by decide) hg hb hk
theorem WI_range {target e : Expr} {npos pos : Pos} {Q : List AV → Option (Addr × AO) → AEnv → AH → Prop}
    (w : W c k rest env RV (eval e env) am H fun a am' H' => ∃ n : Nat, a = .int n ∧ n ≤ 1000000 ∧ Q (rangeA n) none am' H') (hk : env.kindOf "range" = some .globalImplicit := by rfl) (hg : env.globals = mainGlobals := by rfl) (hb : env.builtins = builtinsNs := by rfl)
    (he : starEach [e] env = (false, eval e env) :: starEach [] env := by rfl)
    (hc : eval (.Call (.Name "range" npos) [e] [] pos) env = (do callWith pos (← eval (.Name "range" npos) env) [] (backTo pos (starEach [e] env)) (backToKw pos (keywordEach [] env))) := by rfl) :
    WI c k rest env target (.Call (.Name "range" npos) [e] [] pos) am H Q := fun A s E o a S => by
  refine Call_ ((W_rangeName hk hg hb).step o a S fun v b am₁ H₁ h₁ tk₁ r x₁ S₁ q₁ => ?_) hc
  obtain ⟨rfl, rfl, rfl⟩ := q₁
  subst r
  refine PyProof.Rows.callWith_type1 (W.step (W_items_cons (Q := fun as am' H' => ∃ n : Nat, as = [.int n] ∧ n ≤ 1000000 ∧ Q (rangeA n) none am' H') (w.mono fun a am H ⟨n, e, z, q⟩ => W_items_nil ⟨n, by rw [e], z, q⟩) he) o a S₁ fun vs as am₂ H₂ h₂ tk₂ r x₂ S₂ q₂ => ?_) he rfl
  obtain ⟨n, rfl, hn, q⟩ := q₂
  obtain ⟨_, _, rfl, ⟨t, rfl⟩, rfl⟩ := r
  refine call_range_1 (s := { s with heap := h₂, toks := tk₂ }) ?_
  have sz : Builtin.Range.rangeSize 0 n 1 = n := by rw [rangeSize_one]; split <;> lia
  refine wpAny_pyIter_range (IsRange.new _ _ _ _ _ _ _) (small_one (by lia) (by lia) (by lia) (by lia)) ?_
  rw [sz]
  have k0 : Keeps h₂ (h₂.push { cls := .type "range", data := .fields #[.int 0 tk₂, .int n t, .int 1 (tk₂ + 1)] }) := Keeps.push _ _
  have n1 : h₂.get? (h₂.push { cls := .type "range", data := .fields #[.int 0 tk₂, .int n t, .int 1 (tk₂ + 1)] }).objs.size = none := Heap.get?_none_of_le (by rw [Heap.size_push]; exact Nat.le_succ _)
  have k1 := k0.trans (Keeps.push (h₂.push { cls := .type "range", data := .fields #[.int 0 tk₂, .int n t, .int 1 (tk₂ + 1)] }) { cls := .type "range_iterator", data := .fields #[rawInt 0, rawInt n, rawInt 1] })
  have ex := x₁.trans x₂
  refine ⟨_, rangeA n, none, am₂, H₂, _, _, rfl, rfl, ex.trans (.of_keeps k1), S₂.keeps k1,
    walkable1 (own := none) (T := "range_iterator") (Walks.range a.handled _ 0 1 n).bound (by simp [rangeA]) (by decide) (by decide) (fun i h st => ?_) (by show IsRangeIter _ _ (0 + ((0 : Nat) : Int) * 1) ((n : Int) - ((0 : Nat) : Int)) 1; rw [show (0 : Int) + ((0 : Nat) : Int) * 1 = 0 by decide, show (n : Int) - ((0 : Nat) : Int) = n by lia]; exact Heap.get?_push_size _ rfl) ex S₂ n1 k1 (fun b m => ?_) (fun p e => by cases e) (fun i v h'' tx hP => ?_), q⟩
  · exact ⟨⟨_, _, st, rfl, rfl⟩, fun b m => by rw [List.mem_singleton.mp m]; exact ⟨_, st⟩⟩
  · rw [List.mem_singleton.mp m]; exact .inl n1
  · obtain ⟨hi, t, rfl⟩ := hP
    exact ⟨.int i, by unfold rangeA; rw [List.getElem?_map, List.getElem?_range hi]; rfl, by exact ⟨t, by rw [Int.zero_add, Int.mul_one]⟩⟩
end
theorem Ext.trans_in {e : Env} {es : List Env} {H H' H'' : AH} {h h' h'' : Heap} (x : Ext es H h H' h') (y : Ext (e :: es) H' h' H'' h'') (u : ∀ o, h.get? e.locals = some o → free H e.locals → (∀ e' ∈ es, e'.locals ≠ e.locals) → False) : Ext es H h H'' h'' :=
  ⟨x.tup.trans y.tup, fun b o g n f => by
    obtain ⟨q, q'⟩ := x.keep b o g n f
    obtain ⟨q2, q2'⟩ := y.keep b o q (n.of_eq q') fun e' m => by
      rcases List.mem_cons.mp m with rfl | m
      · intro z; subst z; exact u o g n f
      · exact f e' m
    exact ⟨q2, q2'.trans q'⟩⟩
theorem MapR.none {h : Heap} {mc : Str → Option Value} : MapR h mc fun _ => Option.none := fun _ _ e => by cases e
theorem St.amOf {c : Cfg} {env : Env} {am am' : AEnv} {rest : List Frm} {H : AH} {h : Heap} (S : St c (⟨env, am⟩ :: rest) H h) (le : ∀ x a, am' x = some a → am x = some a) : St c (⟨env, am'⟩ :: rest) H h where
  ground := S.ground
  objs := fun a o e => let ⟨p, q, r⟩ := S.objs a o e; ⟨p, fun f m => by
    rcases List.mem_cons.mp m with rfl | m
    · exact q ⟨env, am⟩ (.head _)
    · exact q f (.tail _ m), r⟩
  frs := fun f m => by
    rcases List.mem_cons.mp m with rfl | m
    · obtain ⟨mc, n, r⟩ := S.top.ns
      exact ⟨S.top.kind, S.top.new, S.top.above, mc, n, fun x a e => r x a (le x a e)⟩
    · exact S.frs f (.tail _ m)
  apart := S.apart
noncomputable def tests (ifs : List Expr) (env : Env) : Sem Bool := forIn ifs true fun c r => if r = true then do let ok ← isTrue c env (eval c env); pure (ForInStep.yield ok) else pure (ForInStep.yield r)

section
variable {c : Cfg} {k : Nat} {rest : List Frm} {env : Env} {α β : Type} {R : Heap → β → α → Prop} {am : AEnv} {H : AH} {h : Heap}
theorem W_tests0 {Q : Bool → AEnv → AH → Prop} (q : Q true am H) : W c k rest env RB (tests [] env) am H Q := fun A s E o a S => wpAny_tests_nil (Post.here (a := true) rfl S q)
theorem W_tests1 {e : Expr} {Q : Bool → AEnv → AH → Prop} (w : W c k rest env RB (isTrue e env (eval e env)) am H Q) : W c k rest env RB (tests [e] env) am H Q := fun A s E o a S => wpAny_tests_one (w A s E o a S)

theorem compLoop_any {A : Around} {elt target iter : Expr} {ifs : List Expr} {scope : Scope} {pos : Pos} {it acc : Value} {env : Env} {R : Result → Shared → Prop} (I : Nat → Shared → Prop)
    (turn : ∀ n s, I n s → wpAny (Md c) A (pyNext it) (fun r s₁ => match r with
      | none => R (.ok .next) s₁
      | some v => wpAny (Md c) A (letOwnedTupleGo target it v) (fun _ s₁ => wpAny (Md c) A (assign target env v) (fun _ s₂ =>
          wpAny (Md c) A (tests ifs env) (fun ok s₃ =>
            if ok = true then wpAny (Md c) A (eval elt env) (fun x s₄ =>
              wpAny (Md c) A (call (.builtin "list.append") [acc, x]) (fun _ s₅ => ∃ m, m < n ∧ I m s₅) (notedBy (Md c) A env fun e s' => R (.error e) s') s₄) (notedBy (Md c) A env fun e s' => R (.error e) s') s₃
            else ∃ m, m < n ∧ I m s₃) (notedBy (Md c) A env fun e s' => R (.error e) s') s₂) (notedBy (Md c) A env fun e s' => R (.error e) s') s₁) (notedBy (Md c) A env fun e s' => R (.error e) s') s₁) (notedBy (Md c) A env fun e s' => R (.error e) s') s)
    (n : Nat) {s : Shared} (h : I n s) :
    codeAny (Md c) A (.compLoop (.ListComp elt [⟨target, iter, ifs, 0⟩] scope pos) 0 it acc env) R s := by
  refine codeAny_loop rfl I (fun n s hI => ?_) n h
  show wpAny _ A ((compTurn (.ListComp elt [⟨target, iter, ifs, 0⟩] scope pos) 0 it acc env).onRaise (fun x => do noteFrame x env; theTreesLotGoes x)) _ _ s
  refine wpAny_noted ?_
  rw [compTurn_list]
  refine wpAny_bind (wpAny_standAt (wpAny_bind (wpAny_mono (turn n s hI) (fun r s₁ h₁ => ?_) fun _ _ h' => h')))
  cases r with
  | none => exact wpAny_pure h₁
  | some v =>
    refine wpAny_bind (wpAny_mono h₁ (fun _ s₁' h₁' => ?_) fun _ _ h' => h')
    refine wpAny_bind (wpAny_mono h₁' (fun _ s₂ h₂ => wpAny_bind (wpAny_mono h₂ (fun ok s₃ h₃ => ?_) fun _ _ h' => h')) fun _ _ h' => h')
    cases ok with
    | false => exact wpAny_pure ⟨rfl, h₃⟩
    | true =>
      simp only [if_true] at h₃ ⊢
      refine wpAny_bind (wpAny_bind (wpAny_mono h₃ (fun x s₄ h₄ => wpAny_bind (wpAny_mono h₄ (fun _ s₅ h₅ => wpAny_pure (wpAny_pure ⟨rfl, h₅⟩)) fun _ _ h' => h')) fun _ _ h' => h'))
/-- the state when a comprehension is through, its own frame on top -/
inductive CompEnd (c : Cfg) (rest : List Frm) (env : Env) (scope : Scope) (cl : List (Str × Addr)) (H : AH) (Q : AV → AEnv → AH → Prop) (s : Shared) (C D : Addr) (h₄ : Heap) : Prop
  | mk (mC am' : AEnv) (H₂ : AH) (_ : St c (⟨compEnvC scope cl C env, mC⟩ :: ⟨env, am'⟩ :: rest) H₂ h₄) (_ : Ext (envs rest env) H s.heap H₂ h₄) (_ : ∀ o, s.heap.get? C = some o → free H C → (∀ e' ∈ envs rest env, e'.locals ≠ C) → False) (_ : Q (.ref D) am' H₂) : CompEnd c rest env scope cl H Q s C D h₄
theorem St.goes {c : Cfg} {fs : List Frm} {H : AH} {h h'' : Heap} {C : Addr} {mc : Str → Option Value} (S : St c fs H h) (n : h.Ns C mc) (hC : H C = none) (hf : ∀ f ∈ fs, f.env.locals ≠ C) (hg : c.G.get? C = none) (sb : Heap.SameBut C h h'') : St c fs H h'' ∧ TupExt h h'' ∧ ∀ b o, b ≠ C → h.get? b = some o → h''.get? b = some o := by
  have kC : ∀ b o, b ≠ C → h.get? b = some o → h''.get? b = some o := fun b o m e => (sb.2 b m).trans e
  obtain ⟨S₅, tx₅⟩ := S.off (wr := [C]) (fun b m => by rw [List.mem_singleton.mp m]; exact ⟨hC, hf, hg⟩) (fun b m items ⟨o, e, hc, n', hd⟩ => by
    rw [List.mem_singleton.mp m] at e
    refine hide fun P' hP' => ?_
    obtain ⟨ob, es, ep, g, hd', _⟩ := n
    refine hP' ?_
    rw [e] at g; cases g
    rw [hd'] at hd; cases hd) fun b o m e => kC b o (by simpa using m) e
  exact ⟨S₅, tx₅, kC⟩
theorem CompEnd.out {c : Cfg} {rest : List Frm} {env : Env} {scope : Scope} {cl : List (Str × Addr)} {H : AH} {Q : AV → AEnv → AH → Prop} {s : Shared} {C D : Addr} {h₄ : Heap} (x : CompEnd c rest env scope cl H Q s C D h₄) :
    ∃ m am' H₂, h₄.Ns C m ∧ St c (⟨env, am'⟩ :: rest) H₂ h₄ ∧ Ext (envs rest env) H s.heap H₂ h₄ ∧ (∀ o, s.heap.get? C = some o → free H C → (∀ e' ∈ envs rest env, e'.locals ≠ C) → False) ∧ H₂ C = none ∧ (∀ f ∈ (⟨env, am'⟩ :: rest : List Frm), f.env.locals ≠ C) ∧ c.G.get? C = none ∧ Q (.ref D) am' H₂ := by
  refine hide fun P' hP' => ?_
  obtain ⟨mC, am', H₂, S₄, x₄, uC, q⟩ := x
  refine hP' ?_
  obtain ⟨mc, nC', _⟩ := S₄.top.ns
  have hC₁ : H₂ C = none := by
    cases z : H₂ C with
    | none => rfl
    | some ao => exact absurd rfl ((S₄.objs _ _ z).2.1 _ (.head _))
  have hCr : ∀ f ∈ (⟨env, am'⟩ :: rest : List Frm), f.env.locals ≠ C := fun f m z => by
    have := S₄.apart
    rw [List.map_cons, List.nodup_cons] at this
    exact this.1 (List.mem_map.mpr ⟨f, m, z⟩)
  exact ⟨mc, am', H₂, nC', S₄.leave, x₄, uC, hC₁, hCr, S₄.top.new, q⟩
theorem Ext.goes {es : List Env} {H H' : AH} {h h' h'' : Heap} {C : Addr} (x : Ext es H h H' h') (u : ∀ o, h.get? C = some o → free H C → (∀ e' ∈ es, e'.locals ≠ C) → False) (tx : TupExt h' h'') (k : ∀ b o, b ≠ C → h'.get? b = some o → h''.get? b = some o) : Ext es H h H' h'' :=
  ⟨x.tup.trans tx, fun b ob e n f => by
    obtain ⟨q, q'⟩ := x.keep b ob e n f
    exact ⟨k b ob (by rintro rfl; exact u ob e n f) q, q'⟩⟩
set_option maxHeartbeats 1000000 in
inductive CompInv (c : Cfg) (rest : List Frm) (env e₁ : Env) (am' : AEnv) (H : AH) (s : Shared) (J : List AV → Option (Addr × AO) → Addr → Nat → List AV → AH → Prop) (as : List AV) (own : Option (Addr × AO)) (D : Addr) (fp wr : List Addr) (St' : Nat → Heap → Prop) (h' : Heap) (n : Nat) (s' : Shared) : Prop
  | mk (i : Nat) (acc : List AV) (am₁ : AEnv) (H₁ : AH) (h₂ : Heap) (tk₁ : Nat) (_ : s' = { s with heap := h₂, toks := tk₁ }) (_ : n + i = as.length) (_ : acc.length ≤ i) (_ : Ext (envs rest env) H s.heap H₁ h₂) (_ : St c (⟨e₁, am₁⟩ :: ⟨env, am'⟩ :: rest) H₁ h₂) (_ : H₁ D = some (.list acc)) (_ : J as own D i acc H₁) (_ : St' i h₂)
    (_ : ∀ b ∈ fp, free H₁ b) (_ : ∀ b ∈ wr, H₁ b = none) (_ : TupExt h' h₂) (_ : ∀ p, own = some p → ObjR c h₂ p.1 p.2) : CompInv c rest env e₁ am' H s J as own D fp wr St' h' n s'
theorem comp_core {elt iter : Expr} {x : Str} {px : Pos} {ifs : List Expr} {scope : Scope} {pos fpos : Pos} {cl : List (Str × Addr)} {Q : AV → AEnv → AH → Prop} (J : List AV → Option (Addr × AO) → Addr → Nat → List AV → AH → Prop)
    (w : WI c k rest env (.Name x px) iter am H fun as own am' H' => as.length ≤ 1000000 ∧ ∀ D, H' D = none → J as own D 0 [] (upd H' D (.list [])) ∧
      (∀ i a acc C H'', as[i]? = some a → H'' D = some (.list acc) → J as own D i acc H'' → W c k (⟨env, am'⟩ :: rest) (compEnvC scope cl C env) RB (tests ifs (compEnvC scope cl C env)) (put (fun _ => none) x a) H'' fun b am H =>
        if b then W c k (⟨env, am'⟩ :: rest) (compEnvC scope cl C env) RV (eval elt (compEnvC scope cl C env)) am H fun y am H => H D = some (.list acc) ∧ J as own D (i + 1) (acc ++ [y]) (upd H D (.list (acc ++ [y])))
        else H D = some (.list acc) ∧ J as own D (i + 1) acc H) ∧
      ∀ acc H'', H'' D = some (.list acc) → J as own D as.length acc H'' → Q (.ref D) am' (restore own H''))
    (hf : env.frame = some env.locals) (hclos : closureFor scope env = pure cl) (hcell : ∀ y ∈ scope.names, y.2 ≠ .cell) (hkind : scope.kind = .function)
    (hnames : ∀ y ∈ scope.names, y.2 = .local → scope.names.lookup y.1 = some .local) (hx : scope.names.lookup x = some .local)
    (hs : ∀ x, foldedSetIterable iter env x = pure x) {A : Around} {s : Shared} {E : Value → Shared → Prop} {use : Option (Value → Sem Unit)} {PP : Value → Shared → Prop} (o : c.Ok) (a : AOk A k (envs rest env)) (S : St c (⟨env, am⟩ :: rest) H s.heap)
    (hend : ∀ C D h₄ tk, CompEnd c rest env scope cl H Q s C D h₄ → compPost (Md c) A E use PP (.ref D) C (.ok .next) { s with heap := h₄, toks := tk }) :
    wpAny (Md c) A (comprehension (.ListComp elt [⟨.Name x px, iter, ifs, 0⟩] scope pos) scope env fpos (newList []) false (eval iter env) use) PP E s := by
  refine wpAny_comprehension_free (use := use) rfl hs hclos hkind hnames (wpAny_mono (w A s E o a S) (fun xv s₁ h₁ => wpAny_mono h₁ (fun it s₂ h₂ => ?_) fun _ _ e => e) fun _ _ e => e)
  obtain ⟨I, as, own, am', H', h', tk, rfl, rfl, x₁, S', ⟨fp, wr, P, Md', St', T, self, st0, hfp, hwr, hst, hmd, hval, hown⟩, hn, q⟩ := h₂
  refine wpAny_newObj_type (wpAny_newFunctionEnv hcell (by intro y hy; simp at hy) (fun h₁ hns₁ hsb₁ => ?_) hkind)
  dsimp only at hns₁ hsb₁ ⊢
  generalize hD : h'.objs.size = D at *
  generalize hH2 : h'.push { cls := .type "list", dict := none, data := .seq ([] : List Value).toArray } = H2 at hns₁ hsb₁ ⊢
  have hC : H2.objs.size = D + 1 := by rw [← hH2, Heap.size_push, hD]
  generalize hCe : H2.objs.size = C at *
  have nD : h'.get? D = none := Heap.get?_none_of_le (by rw [hD]; exact Nat.le_refl _)
  have nC : h'.get? C = none := Heap.get?_none_of_le (by rw [hD, hC]; exact Nat.le_succ _)
  have nC2 : H2.get? C = none := Heap.get?_none_of_le (by rw [hCe]; exact Nat.le_refl _)
  have kA : Keeps h' H2 := hH2 ▸ Keeps.push _ _
  have kB : Keeps H2 h₁ := fun b o e => hsb₁.extBut b o (by rintro rfl; rw [nC2] at e; cases e) (Heap.get?_push_of_some _ e)
  have oD : H2.get? D = some (listOf [].toArray 0) := by rw [← hH2, ← hD]; exact Heap.get?_push_size _ rfl
  obtain ⟨J0, turn, fin⟩ := q D (S'.fresh nD)
  have hCD : C ≠ D := by rw [hC]; exact Nat.succ_ne_self _
  have S₁ : St c (⟨compEnvC scope cl C env, fun _ => none⟩ :: ⟨env, am'⟩ :: rest) (upd H' D (.list [])) h₁ :=
    (S'.alloc kA nD (o := .list []) ⟨[], 0, oD, by simp only [VRs]⟩).enter (by simp) kB nC2 (by rw [hCe]; exact Nat.le_refl _) (by simp [compEnvC, relabel, hkind]) ⟨_, hns₁, .none⟩
  have x₂ : Ext (envs rest env) H s.heap (upd H' D (.list [])) h₁ := x₁.trans ⟨(kA.trans kB).tup, fun b ob e m _ => ⟨kB _ _ (kA _ _ e), by rw [upd_ne]; rintro rfl; rw [nD] at e; cases e⟩⟩
  have uC : ∀ o, s.heap.get? C = some o → free H C → (∀ e' ∈ envs rest env, e'.locals ≠ C) → False := x₁.unused nC
  have aC : AOk A k (envs (⟨env, am'⟩ :: rest) (compEnvC scope cl C env)) := by
    refine ⟨?_, a.handled, a.depth, a.units⟩
    rw [a.frames]
    have z : ((compEnvC scope cl C env).frame == some (compEnvC scope cl C env).locals) = false := by
      show (env.frame == some C) = false
      rw [hf]
      refine beq_eq_false_iff_ne.mpr fun z => ?_
      refine hide fun P' hP' => ?_
      obtain ⟨mc, ⟨ob, _, _, g, _⟩, _⟩ := S'.top.ns
      refine hP' ?_
      dsimp only at g
      rw [Option.some.inj z, nC] at g; cases g
    exact congrArg some (by unfold callEnvs; exact (List.filter_cons_of_neg (by rw [z]; exact Bool.false_ne_true)).symm)
  have frm : ∀ {m : AEnv} {b : Addr}, (∀ e ∈ envs rest env, e.locals ≠ b) → C ≠ b → ∀ f ∈ (⟨compEnvC scope cl C env, m⟩ :: ⟨env, am'⟩ :: rest : List Frm), f.env.locals ≠ b := fun hb hc f mf => by
    rcases List.mem_cons.mp mf with rfl | mf
    · exact hc
    · rcases List.mem_cons.mp mf with rfl | mf
      · exact hb env (.head _)
      · exact hb f.env (.tail _ (List.mem_map.mpr ⟨f, mf, rfl⟩))
  have fpex : ∀ b ∈ fp, ∃ ob, h'.get? b = some ob := (hst 0 h' st0).1
  have fpC : ∀ b ∈ fp, C ≠ b := fun b m z => by obtain ⟨ob, e⟩ := fpex b m; rw [← z, nC] at e; cases e
  have fpD : ∀ b ∈ fp, b ≠ D := fun b m z => by obtain ⟨ob, e⟩ := fpex b m; rw [z, nD] at e; cases e
  have loop : ∀ s₃ : Shared, s₃ = { s with heap := h₁, toks := tk + ([] : List (Str × Value)).length } → codeAny (Md c) A (.compLoop (.ListComp elt [⟨.Name x px, iter, ifs, 0⟩] scope pos) 0 (.ref I) (.ref D) (compEnvC scope cl C env))
      (compPost (Md c) A E use PP (.ref D) C) s₃ := by
    rintro s₃ rfl
    refine compLoop_any (CompInv c rest env (compEnvC scope cl C env) am' H s J as own D fp wr St' h') ?_ as.length
      ⟨0, [], _, _, h₁, _, rfl, rfl, Nat.le_refl _, x₂, S₁, upd_same .., J0, T.frame _ _ _ st0 fun b _ ob e => kB _ _ (kA _ _ e), fun b m => (hfp b m).1.of_eq (upd_ne (fpD b m)), fun b m => by rw [upd_ne (fpD b (T.sub b m))]; exact (hwr b m).1, (kA.trans kB).tup, fun p e => (hown p e).2.2.2.1.mono (kA.trans kB).tup fun ob => (kA.trans kB) _ _⟩
    rintro n s' ⟨i, acc, am₁, H₁, h₂, tk₁, rfl, hn', hac, x₃, S₃, hD₃, j₃, st₃, hfp₃, hwn₃, tx₃, ow₃⟩
    have hw₃ : ∀ {m : AEnv}, ∀ b ∈ wr, H₁ b = none ∧ (∀ f ∈ (⟨compEnvC scope cl C env, m⟩ :: ⟨env, am'⟩ :: rest : List Frm), f.env.locals ≠ b) ∧ c.G.get? b = none := fun b m => ⟨hwn₃ b m, frm (hfp b (T.sub b m)).2 (fpC b (T.sub b m)), (hwr b m).2.2⟩
    by_cases hi : i < as.length
    · refine T.item i _ _ _ hi st₃ fun v h₄ tk₂ hM hk₄ => ?_
      obtain ⟨S₄, tx₄⟩ := S₃.off hw₃ (hst i h₂ st₃).2 hk₄
      refine T.go i v _ _ _ hM fun h₅ hP st₅ hk₅ => ?_
      obtain ⟨S₅, tx₅⟩ := S₄.off hw₃ (hmd i v h₄ hM) hk₅
      have tx : TupExt h' h₅ := tx₃.trans (tx₄.trans tx₅)
      obtain ⟨b, hb, rv⟩ := hval i v h₅ tx hP
      have x₅ : Ext (envs rest env) H s.heap H₁ h₅ := ⟨x₃.tup.trans (tx₄.trans tx₅), fun b ob e n f => by
        obtain ⟨q, q'⟩ := x₃.keep b ob e n f
        have nw : b ∉ wr := fun m => (hwr b m).2.1 ob e n f
        exact ⟨hk₅ b ob nw (hk₄ b ob nw q), q'⟩⟩
      have ow₅ : ∀ p, own = some p → ObjR c h₅ p.1 p.2 := fun p e => (ow₃ p e).mono (tx₄.trans tx₅) fun ob g => hk₅ _ _ (hown p e).2.2.1 (hk₄ _ _ (hown p e).2.2.1 g)
      refine wpAny_assign_Name (wpAny_mono (W_store (c := c) (k := k) (rest := ⟨env, am'⟩ :: rest) (env := compEnvC scope cl C env) (am := am₁) (H := H₁) (Q := fun _ am H => am = put am₁ x b ∧ H = H₁) ⟨rfl, rfl⟩ (lookup_relabel_local hx) A { s with heap := h₅, toks := tk₂ } _ v o aC S₅ rv) (fun u s₆ p₆ => ?_) fun _ _ e => e)
      obtain ⟨_, ax, Hx, h₆, tk₆, rfl, _, x₆, S₆, e6, e7⟩ := p₆
      rw [e6, e7] at S₆; rw [e7] at x₆
      have S₆' : St c (⟨compEnvC scope cl C env, put (fun _ => none) x b⟩ :: ⟨env, am'⟩ :: rest) H₁ h₆ := S₆.amOf fun y a e => by
        unfold put at e ⊢
        by_cases z : y = x
        · rw [if_pos z] at e ⊢; exact e
        · rw [if_neg z] at e; cases e
      refine W.step (turn i b acc C H₁ hb hD₃ j₃) o aC S₆' fun ok ok' am₇ H₇ h₇ tk₇ r₇ x₇ S₇ w₇ => ?_
      have r₇ : ok = ok' := r₇
      subst r₇
      have done : ∀ {H₈ : AH} {h₈ : Heap} {am₈ : AEnv} {tk₈ : Nat} {acc' : List AV}, Ext (envs (⟨env, am'⟩ :: rest) (compEnvC scope cl C env)) H₁ h₅ H₈ h₈ → St c (⟨compEnvC scope cl C env, am₈⟩ :: ⟨env, am'⟩ :: rest) H₈ h₈ → H₈ D = some (.list acc') → J as own D (i + 1) acc' H₈ → acc'.length ≤ i + 1 →
          ∃ m, m < n ∧ CompInv c rest env (compEnvC scope cl C env) am' H s J as own D fp wr St' h' m { s with heap := h₈, toks := tk₈ } := fun {H₈ h₈ am₈ tk₈ acc'} x₈ S₈ d₈ j₈ l₈ => by
        have k₈ : ∀ b ∈ fp, ∀ ob, h₅.get? b = some ob → h₈.get? b = some ob ∧ H₈ b = H₁ b := fun b hb ob e => x₈.keep b ob e (hfp₃ b hb) fun e' m => by
          rcases List.mem_cons.mp m with rfl | m
          · exact fpC b hb
          · exact (hfp b hb).2 e' m
        refine ⟨n - 1, by lia, i + 1, acc', am₈, H₈, h₈, tk₈, rfl, by lia, l₈, x₅.trans_in x₈ uC, S₈, d₈, j₈, T.frame _ _ _ st₅ fun b hb ob e => (k₈ b hb ob e).1, fun b hb => ?_, fun b hb => ?_, tx.trans x₈.tup, fun p e => (ow₅ p e).mono x₈.tup fun ob g => (k₈ _ (hown p e).2.1 ob g).1⟩
        · obtain ⟨ob, e⟩ := (hst _ _ st₅).1 b hb
          exact (hfp₃ b hb).of_eq (k₈ b hb ob e).2
        · obtain ⟨ob, e⟩ := (hst _ _ st₅).1 b (T.sub b hb)
          exact (k₈ b (T.sub b hb) ob e).2.trans (hwn₃ b hb)
      cases ok with
      | false =>
        rw [if_neg Bool.false_ne_true] at w₇ ⊢
        exact done (x₆.trans x₇) S₇ w₇.1 w₇.2 (Nat.le_succ_of_le hac)
      | true =>
        rw [if_pos rfl] at w₇ ⊢
        refine W.step w₇ o aC S₇ fun y ya am₈ H₈ h₈ tk₈ r₈ x₈ S₈ w₈ => ?_
        refine wpAny_mono (W_append (b := ya) (Q := fun _ am H => am = am₈ ∧ H = upd H₈ D (.list (acc ++ [ya]))) w₈.1 (by lia) ⟨rfl, rfl⟩ A { s with heap := h₈, toks := tk₈ } _ [.ref D, y] o aC S₈ (by exact ⟨_, _, rfl, rfl, _, _, rfl, r₈, rfl⟩)) (fun u s₉ p₉ => ?_) fun _ _ e => e
        obtain ⟨_, ax, Hx, h₉, tk₉, rfl, _, x₉, S₉, e6, e7⟩ := p₉
        rw [e6, e7] at S₉; rw [e7] at x₉
        exact done (((x₆.trans x₇).trans x₈).trans x₉) S₉ (upd_same ..) w₈.2 (by rw [List.length_append, List.length_singleton]; lia)
    · have e : i = as.length := by lia
      subst e
      refine T.done _ _ _ st₃ fun h₄ tk₂ hk₄ => ?_
      obtain ⟨S₄, tx₄⟩ := S₃.off hw₃ (hst _ h₂ st₃).2 hk₄
      have x₄ : Ext (envs rest env) H s.heap H₁ h₄ := ⟨x₃.tup.trans tx₄, fun b ob e n f => by
        obtain ⟨q, q'⟩ := x₃.keep b ob e n f
        exact ⟨hk₄ b ob (fun m => (hwr b m).2.1 ob e n f) q, q'⟩⟩
      have ow₅ : ∀ p, own = some p → ObjR c h₄ p.1 p.2 := fun p e => (ow₃ p e).mono tx₄ fun ob g => hk₄ _ _ (hown p e).2.2.1 g
      refine hend C D h₄ tk₂ ⟨am₁, am', restore own H₁, S₄.restore fun p e => ⟨ow₅ p e, (hown p e).2.2.2.2, frm (hfp p.1 (hown p e).2.1).2 (fpC _ (hown p e).2.1)⟩, x₄.restore fun p e => (hown p e).1, uC, fin acc H₁ hD₃ j₃⟩
  exact codeAny_compStart_list (loop _ rfl) (self 0 _ _ _ (T.frame _ _ _ st0 fun b _ ob e => kB _ _ (kA _ _ e)) (loop _ rfl))
theorem W_ListComp {elt iter : Expr} {x : Str} {px : Pos} {ifs : List Expr} {scope : Scope} {pos : Pos} {cl : List (Str × Addr)} {Q : AV → AEnv → AH → Prop} (J : List AV → Option (Addr × AO) → Addr → Nat → List AV → AH → Prop)
    (w : WI c k rest env (.Name x px) iter am H fun as own am' H' => as.length ≤ 1000000 ∧ ∀ D, H' D = none → J as own D 0 [] (upd H' D (.list [])) ∧
      (∀ i a acc C H'', as[i]? = some a → H'' D = some (.list acc) → J as own D i acc H'' → W c k (⟨env, am'⟩ :: rest) (compEnvC scope cl C env) RB (tests ifs (compEnvC scope cl C env)) (put (fun _ => none) x a) H'' fun b am H =>
        if b then W c k (⟨env, am'⟩ :: rest) (compEnvC scope cl C env) RV (eval elt (compEnvC scope cl C env)) am H fun y am H => H D = some (.list acc) ∧ J as own D (i + 1) (acc ++ [y]) (upd H D (.list (acc ++ [y])))
        else H D = some (.list acc) ∧ J as own D (i + 1) acc H) ∧
      ∀ acc H'', H'' D = some (.list acc) → J as own D as.length acc H'' → Q (.ref D) am' (restore own H''))
    (hf : env.frame = some env.locals := by rfl) (hclos : closureFor scope env = pure cl := by rfl) (hcell : ∀ y ∈ scope.names, y.2 ≠ .cell := by decide) (hkind : scope.kind = .function := by rfl)
    (hnames : ∀ y ∈ scope.names, y.2 = .local → scope.names.lookup y.1 = some .local := by decide) (hx : scope.names.lookup x = some .local := by rfl)
    (hs : ∀ x, foldedSetIterable iter env x = pure x := by intro _; rfl) :
    W c k rest env RV (eval (.ListComp elt [⟨.Name x px, iter, ifs, 0⟩] scope pos) env) am H Q := fun A s E o a S => by
  rw [eval_ListComp]
  refine comp_core J w hf hclos hcell hkind hnames hx hs o a S fun C D h₄ tk z => ?_
  refine hide fun P' hP' => ?_
  obtain ⟨m, am', H₂, n, S₄, x₄, uC, h1, h2, h3, q⟩ := z.out
  refine hP' ?_
  refine ⟨m, n, fun h' sb => ?_⟩
  obtain ⟨S₅, tx, kp⟩ := S₄.goes n h1 h2 h3 sb
  exact Post.intro (R := RV) (a := .ref D) (by simp only [VR]) (x₄.goes uC tx kp) S₅ q
/-- y = [.. for .. in ..], on one row: the variables of the comprehension go after the store -/
theorem W_Assign_ListComp {elt iter : Expr} {x y : Str} {px py : Pos} {ifs : List Expr} {scope : Scope} {pos spos : Pos} {cl : List (Str × Addr)} {Q : AF → AEnv → AH → Prop} (J : List AV → Option (Addr × AO) → Addr → Nat → List AV → AH → Prop)
    (w : WI c k rest env (.Name x px) iter am H fun as own am' H' => as.length ≤ 1000000 ∧ ∀ D, H' D = none → J as own D 0 [] (upd H' D (.list [])) ∧
      (∀ i a acc C H'', as[i]? = some a → H'' D = some (.list acc) → J as own D i acc H'' → W c k (⟨env, am'⟩ :: rest) (compEnvC scope cl C env) RB (tests ifs (compEnvC scope cl C env)) (put (fun _ => none) x a) H'' fun b am H =>
        if b then W c k (⟨env, am'⟩ :: rest) (compEnvC scope cl C env) RV (eval elt (compEnvC scope cl C env)) am H fun y am H => H D = some (.list acc) ∧ J as own D (i + 1) (acc ++ [y]) (upd H D (.list (acc ++ [y])))
        else H D = some (.list acc) ∧ J as own D (i + 1) acc H) ∧
      ∀ acc H'', H'' D = some (.list acc) → J as own D as.length acc H'' → Q .next (put am' y (.ref D)) (restore own H''))
    (hsw : swapsWith (.ListComp elt [⟨.Name x px, iter, ifs, 0⟩] scope pos) (some (.Name y py)) spos.line env = pure true := by rfl) (hl : env.kindOf y = some .local := by rfl)
    (hf : env.frame = some env.locals := by rfl) (hclos : closureFor scope env = pure cl := by rfl) (hcell : ∀ y ∈ scope.names, y.2 ≠ .cell := by decide) (hkind : scope.kind = .function := by rfl)
    (hnames : ∀ y ∈ scope.names, y.2 = .local → scope.names.lookup y.1 = some .local := by decide) (hx : scope.names.lookup x = some .local := by rfl)
    (hs : ∀ x, foldedSetIterable iter env x = pure x := by intro _; rfl) :
    W c k rest env RF (exec (.Assign [.Name y py] (.ListComp elt [⟨.Name x px, iter, ifs, 0⟩] scope pos) spos) env) am H Q := fun A s E o a S => by
  rw [exec_Assign_Name_used _ _ _ _ hsw]
  refine PySem.wpAny_bind (wpAny_standAt (PySem.wpAny_bind ?_))
  show wpAny _ A (do let _ ← comprehension (.ListComp elt [⟨.Name x px, iter, ifs, 0⟩] scope pos) scope env _ (newList []) false (eval iter env) (some (assign (.Name y py) env))) _ _ s
  refine PySem.wpAny_bind (wpAny_mono (comp_core (Q := fun a am' H' => Q .next (put am' y a) H') (PP := fun _ s' => Post c rest env RF H Q s .next s') (use := some (assign (.Name y py) env)) J (fun A s E o a S => w A s E o a S) hf hclos hcell hkind hnames hx hs o a S fun C D h₄ tk z => ?_) (fun _ s' hq => wpAny_pure (wpAny_pure hq)) fun _ _ e => e)
  refine hide fun P' hP' => ?_
  obtain ⟨m, am', H₂, n, S₄, x₄, uC, h1, h2, h3, q⟩ := z.out
  refine hP' ?_
  refine wpAny_assign_Name ?_
  refine wpAny_mono (W_store (c := c) (k := k) (rest := rest) (env := env) (am := am') (H := H₂) (Q := fun _ am H => am = put am' y (.ref D) ∧ H = H₂) ⟨rfl, rfl⟩ hl A { s with heap := h₄, toks := tk } E (.ref D) o a S₄ (by simp only [VR])) (fun u s₅ p => ?_) fun _ _ e => e
  obtain ⟨_, am₅, H₅, h₅, tk₅, rfl, _, x₅, S₅, e1, e2⟩ := p
  subst e1; subst e2
  have n5 : h₅.Ns C m := by
    refine hide fun P' hP' => ?_
    obtain ⟨ob, es, ep, g, r⟩ := n
    refine hP' ?_
    refine ⟨ob, es, ep, (x₅.keep C ob g (.inl h1) fun e' me => ?_).1, r⟩
    rcases List.mem_cons.mp me with rfl | me
    · exact h2 ⟨e', am'⟩ (.head _)
    · obtain ⟨f, mf, rfl⟩ := List.mem_map.mp me
      exact h2 f (.tail _ mf)
  refine ⟨m, n5, fun h' sb => ?_⟩
  obtain ⟨S₆, tx, kp⟩ := S₅.goes n5 h1 (fun f mf => by
    rcases List.mem_cons.mp mf with rfl | mf
    · exact h2 ⟨env, am'⟩ (.head _)
    · exact h2 f (.tail _ mf)) h3 sb
  exact Post.intro (R := RF) (a := AF.next) trivial ((x₄.trans x₅).goes uC tx kp) S₆ q
end
section
variable {c : Cfg} {k : Nat} {rest : List Frm} {env : Env} {α β : Type} {R : Heap → β → α → Prop} {am : AEnv} {H : AH} {h : Heap}
theorem W_aName {x : Str} {pos : Pos} {a : AV} {Q : Unit → AEnv → AH → Prop} (q : Q () (put am x a) H) (hl : env.kindOf x = some .local := by rfl) : W1 c k rest env RU a (fun v => assign (.Name x pos) env v) am H Q :=
  fun A s E v o aa S r => wpAny_assign_Name (W_store q hl A s E v o aa S r)
theorem W_ino_nil {Q : Unit → AEnv → AH → Prop} (q : Q () am H) : Wn c k rest env RU [] (fun vs => assignInOrder [] vs) am H Q := fun A s E vs o a S r => by
  subst r
  show wpAny _ _ (pure ()) _ _ _
  exact wpAny_pure (Post.here (a := ()) trivial S q)
theorem W_ino_cons {b : AV} {as : List AV} {t : Value → Sem Unit} {ts : List (Value → Sem Unit)} {Q : Unit → AEnv → AH → Prop} (w : W1 c k rest env RU b t am H fun _ am H => Wn c k rest env RU as (fun vs => assignInOrder ts vs) am H Q) :
    Wn c k rest env RU (b :: as) (fun vs => assignInOrder (t :: ts) vs) am H Q := fun A s E vs o a S r => by
  obtain ⟨v, vs', rfl, r1, r2⟩ := r
  show wpAny _ _ (do holding vs' (t v); assignInOrder ts vs') _ _ _
  refine wpAny_bind (wpAny_holding (wpAny_mono (w A s E v o a S r1) (fun _ s' p => ?_) fun _ _ e => e))
  obtain ⟨_, am', H', h', tk, rfl, _, x', S', w'⟩ := p
  exact Wn.run w' o a S' (r2.mono x'.tup) x'
theorem W_aTup {elts : List Expr} {kk : Nat} {pos : Pos} {as : List AV} {Q : Unit → AEnv → AH → Prop} (w : Wn c k rest env RU as (fun vs => assignInOrder ((assignEach elts env).map (·.2)) vs) am H Q)
    (hn : (assignEach elts env).length = as.length := by rfl) (hstar : (assignEach elts env).findIdx? (·.1) = none := by rfl) :
    W1 c k rest env RU (.tup as) (fun v => assign (.Tuple elts kk pos) env v) am H Q := fun A s E v o a S r => by
  obtain ⟨t, vs, rfl, ht, rv⟩ := r
  refine assign_Tuple_tuple a.handled ht (by rw [hn, List.size_toArray, rv.length]) hstar fun h' he => ?_
  have k1 : Keeps s.heap h' := fun b ob g => he b ob (Nat.ne_of_lt (Heap.lt_size g)) g
  exact Wn.run (tk := s.toks) w o a (S.keeps k1) (by rw [List.toList_toArray]; exact rv.mono k1.tup) (Ext.of_keeps k1)
theorem W_Assign_Tuple {elts : List Expr} {kk : Nat} {tpos pos : Pos} {value : Expr} {Q : AF → AEnv → AH → Prop}
    (w : W c k rest env RV (eval value env) am H fun a am H => W1 c k rest env RU a (fun v => assign (.Tuple elts kk tpos) env v) am H fun _ am H => Q .next am H)
    (hs : swapsWithSole [.Tuple elts kk tpos] value pos.line env = pure false := by rfl) (hw : swappedStores [.Tuple elts kk tpos] value env = pure none := by rfl) :
    W c k rest env RF (exec (.Assign [.Tuple elts kk tpos] value pos) env) am H Q := fun A s E o a S =>
  Assign_Tuple (w.step o a S fun v b am' H' h' tk r x S' w' => wpAny_mono (w'.run (A := A) (E := E) (tk := tk) o a S' r x) (fun _ _ p => by
    refine hide fun P' hP' => ?_
    obtain ⟨_, am₂, H₂, h₂, tk₂, e, _, x₂, S₂, q₂⟩ := p
    refine hP' ?_
    exact ⟨.next, am₂, H₂, h₂, tk₂, e, trivial, x₂, S₂, q₂⟩) fun _ _ e => e) hs hw
theorem VRs.reverse {h : Heap} : ∀ {l : List AV} {vs : List Value}, VRs h l vs → VRs h l.reverse vs.reverse
  | [], _, r => by subst r; simp only [List.reverse_nil, VRs]
  | a :: l, _, r => by
    obtain ⟨v, q, rfl, r1, r2⟩ := r
    rw [List.reverse_cons, List.reverse_cons]
    exact (VRs.reverse r2).append (by exact ⟨v, [], rfl, r1, rfl⟩)
/-- a, b = x, y -/
theorem W_Assign_Swap {elts : List Expr} {kk : Nat} {tpos pos : Pos} {value : Expr} {Q : AF → AEnv → AH → Prop} (names : List Str)
    (w : W c k rest env RV (eval value env) am H fun a am H => ∃ as, a = .tup as ∧ names.length = as.length ∧ Q .next (putsR am names.reverse as.reverse) H)
    (hs : swapsWithSole [.Tuple elts kk tpos] value pos.line env = pure false := by rfl) (hw : swappedStores [.Tuple elts kk tpos] value env = pure (some names) := by rfl) (hl : (names.all fun x => decide (env.kindOf x = some .local)) = true := by rfl) :
    W c k rest env RF (exec (.Assign [.Tuple elts kk tpos] value pos) env) am H Q := fun A s E o a S =>
  Assign_Tuple_swapped (w.step o a S fun v b am' H' h' tk r x S' q => by
    obtain ⟨as, rfl, hn, q⟩ := q
    obtain ⟨t, vs, rfl, ht, rv⟩ := r
    rw [show names.length = vs.toArray.size by rw [hn, List.size_toArray, rv.length]]
    refine unpackItems_tuple (s := { s with heap := h', toks := tk }) a.handled ht fun h₂ he => ?_
    have k1 : Keeps h' h₂ := fun b ob g => he b ob (Nat.ne_of_lt (Heap.lt_size g)) g
    refine wpAny_mono (Wn.run (H₀ := H) (s := s) (tk := tk) (W_inOrder (Q := fun _ am H => Q .next am H) names.reverse as.reverse am' q fun y m => of_decide_eq_true (List.all_eq_true.mp hl y (List.mem_reverse.mp m))) (A := A) (E := E) o a (S'.keeps k1) (by rw [List.toList_toArray]; exact (rv.mono k1.tup).reverse) (x.trans (Ext.of_keeps k1))) (fun _ _ p => ?_) fun _ _ e => e
    refine hide fun P' hP' => ?_
    obtain ⟨_, am₂, H₂, h₂, tk₂, e, _, x₂, S₂, q₂⟩ := p
    refine hP' ?_
    exact ⟨.next, am₂, H₂, h₂, tk₂, e, trivial, x₂, S₂, q₂⟩) hs hw

/-- tuples put end to end -/
theorem W_tupAdd {as bs : List AV} {Q : AV → AEnv → AH → Prop} (q : Q (.tup (as ++ bs)) am H) (hz : as.length + bs.length ≤ 1000000) : W2 c k rest env RV (.tup as) (.tup bs) (binaryOp .Add) am H Q := fun A s E v u o a S r r' => by
  obtain ⟨t, vs, rfl, ht, rv⟩ := r
  obtain ⟨b, ws, rfl, hb, rw'⟩ := r'
  refine hide fun P' hP' => ?_
  obtain ⟨⟨cls, dd, data, sl⟩, ho, hc, n, hd⟩ := id ht
  refine hP' ?_
  refine hide fun P' hP' => ?_
  obtain ⟨⟨cls2, dd2, data2, sl2⟩, ho2, hc2, n2, hd2⟩ := id hb
  refine hP' ?_
  simp only at hc hd hc2 hd2
  subst hc hd hc2 hd2
  by_cases hv : vs = []
  · refine concat_meets ⟨_, ho, rfl⟩ ⟨_, ho2, rfl⟩ noFill_tuple_add seq_tuple_add PySem.F.slot_tuple_add PySem.F.entry_tuple_add (PySem.F.args_tuple_add_2 _ _)
      (tuple_addW0 t b vs.toArray ws.toArray n n2 dd dd2 sl sl2 (by simp [hv])) ⟨ho, ho2, ?_⟩
    have ea : as = [] := List.length_eq_zero_iff.mp (by rw [← rv.length, hv]; rfl)
    exact Post.here (R := RV) (a := .tup (as ++ bs)) (by rw [ea, List.nil_append]; exact ⟨b, ws, rfl, hb, rw'⟩) S q
  · by_cases hw : ws = []
    · refine concat_meets ⟨_, ho, rfl⟩ ⟨_, ho2, rfl⟩ noFill_tuple_add seq_tuple_add PySem.F.slot_tuple_add PySem.F.entry_tuple_add (PySem.F.args_tuple_add_2 _ _)
        (tuple_addW1 t b vs.toArray ws.toArray n n2 dd dd2 sl sl2 (by simpa using hv) (by simp [hw])) ⟨ho, ho2, ?_⟩
      have ea : bs = [] := List.length_eq_zero_iff.mp (by rw [← rw'.length, hw]; rfl)
      exact Post.here (R := RV) (a := .tup (as ++ bs)) (by rw [ea, List.append_nil]; exact ⟨t, vs, rfl, ht, rv⟩) S q
    · refine concat_meets ⟨_, ho, rfl⟩ ⟨_, ho2, rfl⟩ noFill_tuple_add seq_tuple_add PySem.F.slot_tuple_add PySem.F.entry_tuple_add (PySem.F.args_tuple_add_2 _ _)
        (tuple_addW2 t b vs.toArray ws.toArray n n2 dd dd2 sl sl2 (by simpa using hv) (by simpa using hw) (by rw [List.size_toArray, List.size_toArray, rv.length, rw'.length, sizeLine_eq]; lia)) ⟨ho, ho2, ?_⟩
      refine Post.intro (R := RV) (a := .tup (as ++ bs)) ?_ (Ext.of_keeps (Keeps.push _ _)) (S.keeps (Keeps.push _ _)) q
      exact ⟨_, vs ++ ws, rfl, by rw [show (vs ++ ws).toArray = vs.toArray ++ ws.toArray by simp]; exact IsTup.new _ _, (rv.append rw').mono (Keeps.push _ _).tup⟩
/-- lists put end to end -/
theorem W_listAdd {l b : Addr} {as bs : List AV} {Q : AV → AEnv → AH → Prop} (hl : H l = some (.list as)) (hb : H b = some (.list bs)) (q : ∀ d, H d = none → Q (.ref d) am (upd H d (.list (as ++ bs)))) (hz : as.length + bs.length ≤ 1000000) : W2 c k rest env RV (.ref l) (.ref b) (binaryOp .Add) am H Q := fun A s E v u o a S r r' => by
  subst r; subst r'
  refine hide fun P' hP' => ?_
  obtain ⟨_, _, vs, n, e1, rv⟩ := S.objs _ _ hl
  refine hP' ?_
  refine hide fun P' hP' => ?_
  obtain ⟨_, _, ws, n2, e2, rw'⟩ := S.objs _ _ hb
  refine hP' ?_
  have nI : s.heap.get? s.heap.objs.size = none := Heap.get?_none_of_le (Nat.le_refl _)
  refine concat_meets ⟨_, e1, rfl⟩ ⟨_, e2, rfl⟩ noFill_list_add seq_list_add PySem.F.slot_list_add PySem.F.entry_list_add (PySem.F.args_list_add_2 _ _) (list_addW l b vs.toArray ws.toArray n n2 none none #[] #[] (by rw [List.size_toArray, List.size_toArray, rv.length, rw'.length, sizeLine_eq]; lia)) ⟨e1, e2, ?_⟩
  refine Post.intro (R := RV) (a := .ref s.heap.objs.size) (tk := s.toks) (by simp only [VR]) (Ext.of_alloc (Keeps.push _ _) nI) (S.alloc (Keeps.push _ _) nI (o := .list (as ++ bs)) ⟨vs ++ ws, 0, ?_, (rv.append rw').mono (Keeps.push _ _).tup⟩) (q _ (S.fresh nI))
  rw [Heap.get?_push_size _ rfl]; simp [W.listOf]
theorem W_len {l : Addr} {as : List AV} {Q : AV → AEnv → AH → Prop} (hl : H l = some (.list as)) (hz : as.length ≤ 1000000) (q : Q (.int as.length) am H) : Wn c k rest env RV [.ref l] (fun vs => call (.builtin "len") vs) am H Q := fun A s E vs o a S r => by
  obtain ⟨_, _, rfl, rfl, rfl⟩ := r
  refine hide fun P' hP' => ?_
  obtain ⟨_, _, vs, n, e1, rv⟩ := S.objs _ _ hl
  refine hP' ?_
  refine PyProof.Rows.len_list (items := vs.toArray) ⟨_, e1, rfl, n, rfl⟩ (by rw [List.size_toArray, rv.length]; lia) (Post.intro (R := RV) (a := .int as.length) (h' := s.heap) ?_ .refl S q)
  exact ⟨_, by rw [List.size_toArray, rv.length]⟩
theorem W_pop {l : Addr} {as : List AV} {b : AV} {Q : AV → AEnv → AH → Prop} (hl : H l = some (.list (as ++ [b]))) (hz : as.length ≤ 1000000) (q : Q b am (upd H l (.list as))) : Wn c k rest env RV [.ref l] (fun vs => call (.builtin "list.pop") vs) am H Q := fun A s E vs o a S r => by
  obtain ⟨_, _, rfl, rfl, rfl⟩ := r
  refine hide fun P' hP' => ?_
  obtain ⟨_, _, vs, n, e, rv⟩ := S.objs _ _ hl
  refine hP' ?_
  have hlen : vs.length = as.length + 1 := by rw [rv.length, List.length_append, List.length_singleton]
  obtain ⟨y, hy, ry⟩ := rv.get (i := as.length) (a := b) (by simp)
  have rd : ∀ {l : List AV} {vs : List Value}, VRs s.heap l vs → VRs s.heap l.dropLast vs.dropLast := by
    intro l
    induction l with
    | nil => intro vs r; subst r; simp only [List.dropLast_nil, VRs]
    | cons x l ih =>
      intro vs r
      obtain ⟨v, q, rfl, r1, r2⟩ := r
      cases l with
      | nil => subst r2; simp [VRs]
      | cons x' l =>
        have r2' := r2
        obtain ⟨v', q', rfl, _, _⟩ := r2
        rw [List.dropLast_cons_cons, List.dropLast_cons_cons]
        exact ⟨v, _, rfl, r1, ih r2'⟩
  refine Copied.pop_at (its := vs.toArray) e (y := y) (by rw [List.size_toArray, hlen]; simpa using hy) (fun h' sb e' => ?_) (by rw [List.size_toArray, hlen, sizeLine_eq]; lia)
  have kp : ∀ b o, b ≠ l → s.heap.get? b = some o → h'.get? b = some o := fun b o z e => (sb.2 b z).trans e
  have x' : TupExt s.heap h' := tupExt_of e (by simp) kp
  refine Post.intro (R := RV) (a := b) (tk := s.toks) (ry.mono x') (Ext.of_upd hl x' kp) (S.upd hl kp x' (o' := .list as) ⟨vs.dropLast, n + 1, by rw [e']; simp [W.listOf], ?_⟩) q
  have := (rd rv).mono x'
  rwa [List.dropLast_concat] at this
/-- l.extend(b) -/
theorem W_extend {l b : Addr} {as bs : List AV} {Q : AV → AEnv → AH → Prop} (hl : H l = some (.list as)) (hb : H b = some (.list bs)) (hz : as.length + bs.length ≤ 1000000) (q : Q .none am (upd H l (.list (as ++ bs)))) :
    Wn c k rest env RV [.ref l, .ref b] (fun vs => call (.builtin "list.extend") vs) am H Q := fun A s E vs o a S r => by
  obtain ⟨_, _, rfl, rfl, _, _, rfl, rfl, rfl⟩ := r
  refine hide fun P' hP' => ?_
  obtain ⟨_, _, vs, n, e, rv⟩ := S.objs _ _ hl
  refine hP' ?_
  refine hide fun P' hP' => ?_
  obtain ⟨_, _, ws, n2, e2, rw'⟩ := S.objs _ _ hb
  refine hP' ?_
  have hsz : vs.toArray.size + ws.toArray.size ≤ 1000000 := by rw [List.size_toArray, List.size_toArray, rv.length, rw'.length]; exact hz
  refine call_meets PySem.F.slot_list_extend ⟨_, e, rfl⟩ PySem.F.entry_list_extend (PySem.F.args_list_extend_2 _ _) (PySem.AutoSeq1.list_extend_list_list_0 l vs.toArray n b ws.toArray n2 (PyProof.Rows.extend_door (by rw [sizeLine_eq]; lia)) (by rw [sizeLine_eq]; lia) (by rw [sizeLine_eq]; lia)) ⟨e, e2, ?_⟩
  have kp : ∀ b o, b ≠ l → s.heap.get? b = some o → (s.heap.update l (Obj.mapSeq fun x => x ++ ws.toArray)).get? b = some o := fun b o z e => (Heap.get?_update_ne _ _ _ _ z).trans e
  have x' : TupExt s.heap (s.heap.update l (Obj.mapSeq fun x => x ++ ws.toArray)) := tupExt_of e (by simp) kp
  have q' := PySem.IsL.update e (fun x => x ++ ws.toArray)
  exact Post.intro (R := RV) (a := .none) (tk := s.toks) (by simp only [VR]) (Ext.of_upd hl x' kp) (S.upd hl kp x' (o' := .list (as ++ bs)) ⟨vs ++ ws, _, (by have q2 : _ = some _ := q'; rw [q2, ← List.append_toArray]), (rv.append rw').mono x'⟩) q

/-- {} as a dict keyed by texts -/
theorem W_Dict0 {pos : Pos} {Q : AV → AEnv → AH → Prop} (q : ∀ d, H d = none → Q (.ref d) am (upd H d (.dict []))) : W c k rest env RV (eval (.Dict [] [] pos) env) am H Q := fun A s E o a S => by
  have nI : s.heap.get? s.heap.objs.size = none := Heap.get?_none_of_le (Nat.le_refl _)
  have hm : (s.heap.objs.size == sysModules) = false := beq_eq_false_iff_ne.mpr (Nat.ne_of_gt (modules_low (S.T o).nolimit))
  exact wpAny_Dict_empty (Post.intro (R := RV) (a := .ref s.heap.objs.size) (tk := s.toks) (by simp only [VR]) (Ext.of_alloc (Keeps.push _ _) nI) (S.alloc (Keeps.push _ _) nI (o := .dict []) ⟨hm, [], Heap.DictOf.new _, .nil⟩) (q _ (S.fresh nI)))

noncomputable abbrev RP : Heap → List (Value × Value) → List (Str × AV) → Prop := fun h vs as => All2 (fun (a : Str × AV) (v : Value × Value) => (∃ t, v.1 = .str a.1 t) ∧ VR h a.2 v.2) as vs
theorem W_pairs0 {values : List Expr} {pos : Pos} {Q : List (Str × AV) → AEnv → AH → Prop} (q : Q [] am H) : W c k rest env RP (evalPairs (pairTrees [] values env pos)) am H Q := fun A s E o a S =>
  wpAny_pure (Post.here (R := RP) (a := []) .nil S q)
theorem W_pairs1 {x : Str} {kk : Nat} {kpos : Pos} {keys : List (Option Expr)} {v : Expr} {values : List Expr} {pos : Pos} {Q : List (Str × AV) → AEnv → AH → Prop}
    (w : W c k rest env RV (eval v env) am H fun a am H => W c k rest env RP (evalPairs (pairTrees keys values env pos)) am H fun l am H => Q ((x, a) :: l) am H) :
    W c k rest env RP (evalPairs (pairTrees (some (.Constant (.str x) kk kpos) :: keys) (v :: values) env pos)) am H Q := fun A s E o a S => by
  show wpAny _ _ (evalPairs ((eval (.Constant (.str x) kk kpos) env, do let x ← eval v env; standAt pos; pure x) :: pairTrees keys values env pos)) _ _ _
  unfold evalPairs
  refine wpAny_bind (wpAny_Constant_str (wpAny_bind (wpAny_holding (wpAny_bind ?_))))
  refine W.step (s := { s with toks := s.toks + 1 }) w o a S fun u b am' H' h' tk r x' S' w' => wpAny_bind (wpAny_standAt (wpAny_pure (wpAny_bind (wpAny_holding ?_))))
  refine W.step w' o a S' fun us l am₂ H₂ h₂ tk₂ r₂ x₂ S₂ q => wpAny_pure ?_
  exact Post.intro (R := RP) (a := (x, b) :: l) (.cons ⟨⟨_, rfl⟩, r.mono x₂.tup⟩ r₂) (x'.trans x₂) S₂ q
noncomputable def mergeA (l : List (Str × AV)) : List (Str × AV) := l.foldl (fun acc p => storeA acc p.1 p.2) []
theorem carries_of {w : World} {h : Heap} {as : List (Str × AV)} {vs : List (Value × Value)} (r : RP h vs as) : ∃ kvs, Carries (PySem.strKind pw w) vs kvs ∧ All2 (PairR h) as kvs := by
  induction r with
  | nil => exact ⟨[], trivial, .nil⟩
  | @cons a v l r p _ ih =>
    obtain ⟨kvs, c, q⟩ := ih
    obtain ⟨⟨t, e⟩, rv⟩ := p
    obtain ⟨v1, v2⟩ := v
    dsimp only at e; subst e
    exact ⟨(a.1, v2) :: kvs, ⟨strKind_is pw w a.1 t, rfl, c⟩, .cons ⟨rfl, rv⟩ q⟩
theorem merge_R {h : Heap} {as : List (Str × AV)} {kvs : List (Str × Value)} (r : All2 (PairR h) as kvs) : All2 (PairR h) (mergeA as) (merged [] kvs) := by
  have key : ∀ {as : List (Str × AV)} {kvs : List (Str × Value)} (r : All2 (PairR h) as kvs) {a0 : List (Str × AV)} {k0 : List (Str × Value)} (r0 : All2 (PairR h) a0 k0), All2 (PairR h) (as.foldl (fun acc p => storeA acc p.1 p.2) a0) (kvs.foldl (fun acc kv => stored acc kv.1 kv.2) k0) := by
    intro as kvs r
    induction r with
    | nil => intro a0 k0 r0; exact r0
    | @cons p q l r pq _ ih =>
      intro a0 k0 r0
      obtain ⟨e1, e2⟩ := pq
      refine ih ?_
      dsimp only
      rw [← e1]
      exact storeA_R r0 e2
  exact key r .nil
/-- a dict display with texts for keys -/
theorem W_Dict {keys : List (Option Expr)} {values : List Expr} {pos : Pos} {Q : AV → AEnv → AH → Prop} (w : W c k rest env RP (evalPairs (pairTrees keys values env pos)) am H fun l am H => ∀ d, H d = none → Q (.ref d) am (upd H d (.dict (mergeA l))))
    (hall : keys.all (·.isSome) = true := by rfl) (hl : keys.length = values.length := by rfl) (h0 : keys ≠ [] := by simp) (hlen : keys.length ≤ 15 := by decide) : W c k rest env RV (eval (.Dict keys values pos) env) am H Q := fun A s E o a S => by
  have nI : s.heap.get? s.heap.objs.size = none := Heap.get?_none_of_le (Nat.le_refl _)
  have hm : (s.heap.objs.size == sysModules) = false := beq_eq_false_iff_ne.mpr (Nat.ne_of_gt (modules_low (S.T o).nolimit))
  have k0 : Keeps s.heap (s.heap.push { cls := .type "dict", data := .dict #[] }) := Keeps.push _ _
  have oD := S.outside nI
  refine wpAny_Dict_walk (knd := PySem.strKind pw c.w) hall hl h0 hlen (W.step (s := { s with heap := s.heap.push { cls := .type "dict", data := .dict #[] } }) w o a (S.keeps k0) fun vs l am' H' h' tk r x S' q => ?_)
  obtain ⟨kvs, cr, rk⟩ := carries_of (w := c.w) r
  have kD : ∀ ob, (s.heap.push { cls := .type "dict", data := .dict #[] }).get? s.heap.objs.size = some ob → h'.get? s.heap.objs.size = some ob ∧ H' s.heap.objs.size = none := fun ob e => let z := x.keep _ _ e (.inl oD.1) oD.2.1; ⟨z.1, z.2.trans oD.1⟩
  refine hide fun P' hP' => ?_
  obtain ⟨ob, es, ep, e, ex, dd, rest'⟩ := (Heap.DictOf.new (knd := PySem.strKind pw c.w) s.heap)
  refine hP' ?_
  refine ⟨kvs, cr, ⟨ob, es, ep, (kD _ e).1, ex, dd, rest'⟩, fun h₂ D sb => ?_⟩
  have eD := kD _ e
  have kp : ∀ b o, b ≠ s.heap.objs.size → h'.get? b = some o → h₂.get? b = some o := fun b o z e => (sb.2 b z).trans e
  have x' : TupExt h' h₂ := tupExt_of eD.1 (by rw [ex.1]; simp) kp
  have frD : ∀ f ∈ (⟨env, am'⟩ :: rest : List Frm), f.env.locals ≠ s.heap.objs.size := fun f m => by
    rcases List.mem_cons.mp m with rfl | m
    · exact oD.2.1 env (.head _)
    · exact oD.2.1 f.env (.tail _ (List.mem_map.mpr ⟨f, m, rfl⟩))
  have off := S'.off (h' := h₂) (wr := [s.heap.objs.size]) (fun b m => by rw [List.mem_singleton.mp m]; exact ⟨eD.2, frD, oD.2.2⟩) (fun b m items => not_tup (by rw [List.mem_singleton.mp m]; exact eD.1) ex.1 (by decide) items) (fun b ob m e => kp b ob (by simpa using m) e)
  have S₃ : St c (⟨env, am'⟩ :: rest) (upd H' s.heap.objs.size (.dict (mergeA l))) h₂ := by
    refine off.1.restore (own := some (s.heap.objs.size, .dict (mergeA l))) fun p e => ?_
    cases e
    exact ⟨⟨hm, _, D, merge_R (rk.mono fun _ _ z => z.mono x')⟩, oD.2.2, frD⟩
  refine Post.intro (R := RV) (a := .ref s.heap.objs.size) (by simp only [VR]) ?_ S₃ (q _ eD.2)
  refine ⟨((k0.tup.trans x.tup).trans x'), fun b ob e1 n f => ?_⟩
  have nb : b ≠ s.heap.objs.size := by rintro rfl; rw [nI] at e1; cases e1
  obtain ⟨q1, q2⟩ := x.keep b ob (k0 _ _ e1) n f
  exact ⟨kp b ob nb q1, by rw [upd_ne nb]; exact q2⟩
end
section
variable {c : Cfg} {k : Nat} {rest : List Frm} {env : Env} {α β : Type} {R : Heap → β → α → Prop} {am : AEnv} {H : AH} {h : Heap}
theorem W_cell {x : Str} {pos : Pos} {ca : Addr} {a : AV} {Q : AV → AEnv → AH → Prop} (hH : H ca = some (.cell (some a))) (q : Q a am H) (hl : env.kindOf x = some .cell := by rfl) (hc : env.cells.lookup x = some ca := by rfl) (hd : (x == ("__debug__" : Str)) = false := by decide) :
    W c k rest env RV (eval (.Name x pos) env) am H Q := fun _ s _ o _ S => by
  obtain ⟨_, _, v, i, r⟩ := S.objs _ _ hH
  exact wpAny_Name (wpAny_loadName_cell S.top.kind hl hc i (Post.here r S q)) hd
theorem cell_R {h : Heap} {a : Addr} {o : Option AV} (r : ObjR c h a (.cell o)) : ∃ v, h.IsCell a v := by
  cases o with
  | none => exact ⟨_, r⟩
  | some b => obtain ⟨v, i, _⟩ := r; exact ⟨_, i⟩
theorem W_storeC {x : Str} {ca : Addr} {a : AV} {o₀ : Option AV} {Q : Unit → AEnv → AH → Prop} (hH : H ca = some (.cell o₀)) (q : Q () am (upd H ca (.cell (some a)))) (hl : env.kindOf x = some .cell := by rfl) (hc : env.cells.lookup x = some ca := by rfl) :
    W1 c k rest env RU a (storeName env x) am H Q := fun A s E v o aa S r => by
  obtain ⟨v₀, i⟩ := cell_R (S.objs _ _ hH).2.2
  obtain ⟨ob, e, d⟩ := id i
  refine wpAny_storeName_cell S.top.kind hl hc i fun h' i' sb => ?_
  have kp : ∀ b o, b ≠ ca → s.heap.get? b = some o → h'.get? b = some o := fun b o z e => (sb.2 b z).trans e
  have x' : TupExt s.heap h' := fun a' items ⟨o', e', hc', n', d'⟩ => ⟨o', kp _ _ (by
    rintro rfl
    rw [e] at e'; cases e'
    rw [d] at d'; cases d') e', hc', n', d'⟩
  exact Post.intro (a := ()) (tk := s.toks) trivial (Ext.of_upd hH x' kp) (S.upd hH kp x' (o' := .cell (some a)) ⟨v, i', r.mono x'⟩) q
theorem W_aNameC {x : Str} {pos : Pos} {ca : Addr} {a : AV} {o₀ : Option AV} {Q : Unit → AEnv → AH → Prop} (hH : H ca = some (.cell o₀)) (q : Q () am (upd H ca (.cell (some a)))) (hl : env.kindOf x = some .cell := by rfl) (hc : env.cells.lookup x = some ca := by rfl) :
    W1 c k rest env RU a (fun v => assign (.Name x pos) env v) am H Q := fun A s E v o aa S r => wpAny_assign_Name (W_storeC hH q hl hc A s E v o aa S r)

/-- dicts keyed by tuples of texts -/
theorem key_R {h : Heap} {ks : List Str} {a : Addr} {vs : List Value} (r : VRs h (ks.map .str) vs) (t : IsTup h a vs.toArray) : IsTupleKey (PySem.strKind pw c.w) h ks a := by
  obtain ⟨o, e, hc, n, hd⟩ := t
  refine ⟨o, vs.toArray, n, e, hc, hd, ?_⟩
  rw [List.toList_toArray]
  clear hd e hc
  induction ks generalizing vs with
  | nil => simp only [List.map_nil, VRs] at r; subst r; exact .nil
  | cons x ks ih =>
    simp only [List.map_cons, VRs, VR] at r
    obtain ⟨v, q, rfl, ⟨t, rfl⟩, r2⟩ := r
    exact .cons (strKind_is pw c.w x t) (ih r2)
noncomputable def tvalA (l : List (List Str × AV)) (x : List Str) : Option AV := (l.find? fun p => decide (p.1 = x)).map (·.2)
noncomputable def tstoreA (l : List (List Str × AV)) (x : List Str) (a : AV) : List (List Str × AV) := if (tvalA l x).isSome then l.map (fun p => if p.1 = x then (p.1, a) else p) else l ++ [(x, a)]
noncomputable abbrev TR (h : Heap) (p : List Str × AV) (x : List Str × Addr × Value) : Prop := p.1 = x.1 ∧ VR h p.2 x.2.2
theorem tval_R {h : Heap} {l : List (List Str × AV)} {xs : List (List Str × Addr × Value)} {x : List Str} (r : All2 (TR h) l xs) : (∀ a, tvalA l x = some a → ∃ p, atKey xs x = some p ∧ VR h a p.2) ∧ (tvalA l x = none → atKey xs x = none) := by
  induction r with
  | nil => exact ⟨fun a e => by simp [tvalA] at e, fun _ => rfl⟩
  | @cons p q l r hpq _ ih =>
    obtain ⟨e1, e2⟩ := hpq
    unfold tvalA atKey at *
    by_cases z : p.1 = x
    · have z' : q.1 = x := e1 ▸ z
      simp only [List.find?_cons, z, z', decide_true, Option.map_some]
      exact ⟨fun a e => by cases e; exact ⟨_, rfl, e2⟩, fun e => by cases e⟩
    · have z' : ¬ q.1 = x := e1 ▸ z
      simp only [List.find?_cons, z, z', decide_false]
      exact ih
theorem W_Dict0T {pos : Pos} {Q : AV → AEnv → AH → Prop} (q : ∀ d, H d = none → Q (.ref d) am (upd H d (.tdict []))) : W c k rest env RV (eval (.Dict [] [] pos) env) am H Q := fun A s E o a S => by
  have nI : s.heap.get? s.heap.objs.size = none := Heap.get?_none_of_le (Nat.le_refl _)
  have hm : (s.heap.objs.size == sysModules) = false := beq_eq_false_iff_ne.mpr (Nat.ne_of_gt (modules_low (S.T o).nolimit))
  exact wpAny_Dict_empty (Post.intro (R := RV) (a := .ref s.heap.objs.size) (tk := s.toks) (by simp only [VR]) (Ext.of_alloc (Keeps.push _ _) nI) (S.alloc (Keeps.push _ _) nI (o := .tdict []) ⟨hm, [], Heap.DictOfH.new _, .nil⟩) (q _ (S.fresh nI)))
theorem AOk.key {A : Around} {es : List Env} (a : AOk A k es) : (tupleKind (PySem.strKind pw c.w)).room A.in1 := tupleKind_room_in1 (by have u := a.units; lia)
theorem W_in_tdict {d : Addr} {l : List (List Str × AV)} {ks : List Str} {Q : AV → AEnv → AH → Prop} (hd : H d = some (.tdict l)) (q : Q (.bool (tvalA l ks).isSome) am H) : W2 c k rest env RV (.tup (ks.map .str)) (.ref d) (compareOp .In) am H Q := fun A s E v u o a S r r' => by
  subst r'
  obtain ⟨t, vs, rfl, ht, rv⟩ := r
  obtain ⟨_, _, m, xs, D, rx⟩ := S.objs _ _ hd
  have z := tval_R (x := ks) rx
  refine wpAny_in_heap (knd := tupleKind (PySem.strKind pw c.w)) a.key (key_R rv ht) m D (Post.intro (h' := s.heap) (a := .bool (tvalA l ks).isSome) ?_ .refl S q)
  cases e : tvalA l ks with
  | none => simp only [RV, VR, z.2 e, Option.isSome]
  | some b => obtain ⟨y, hy, _⟩ := z.1 b e; simp only [RV, VR, hy, Option.isSome]
theorem W_item_tdict {d : Addr} {l : List (List Str × AV)} {ks : List Str} {b : AV} {value slice : Expr} {Q : AV → AEnv → AH → Prop} (hd : H d = some (.tdict l)) (hx : tvalA l ks = some b) (q : Q b am H)
    (hs : ∀ t, subscripted slice false (.ref d) (.ref t) = operate [.ref d, .ref t] (getItem (.ref d) (.ref t)) := by intro _; with_unfolding_all rfl) :
    W2 c k rest env RV (.ref d) (.tup (ks.map .str)) (subscriptTail value slice) am H Q := fun A s E v u o a S r r' => by
  subst r; obtain ⟨t, vs, rfl, ht, rv⟩ := r'
  obtain ⟨_, _, m, xs, D, rx⟩ := S.objs _ _ hd
  obtain ⟨y, hy, ry⟩ := (tval_R (x := ks) rx).1 _ hx
  exact tail_any D.typeIs slot_dict_getitem.lookup (wpAny_getItem_heap (knd := tupleKind (PySem.strKind pw c.w)) a.key (key_R rv ht) D hy (Post.intro (h' := s.heap) ry .refl S q)) (hs _)
theorem tstore_R {h : Heap} {l : List (List Str × AV)} {xs : List (List Str × Addr × Value)} {x : List Str} {a : AV} {v : Value} {t : Addr} (r : All2 (TR h) l xs) (ra : VR h a v) : All2 (TR h) (tstoreA l x a) (storedH xs x t v) := by
  have z := tval_R (x := x) r
  unfold tstoreA storedH
  have e : (tvalA l x).isSome = (atKey xs x).isSome := by
    cases e : tvalA l x with
    | none => rw [z.2 e]; rfl
    | some b => obtain ⟨y, hy, _⟩ := z.1 b e; rw [hy]; rfl
  rw [e]
  by_cases w : (atKey xs x).isSome = true
  · rw [if_pos w, if_pos w]
    clear w e z
    induction r with
    | nil => exact .nil
    | @cons p q l r hpq _ ih =>
      obtain ⟨e1, e2⟩ := hpq
      refine .cons ?_ ih
      unfold putAt
      dsimp only
      by_cases w : p.1 = x
      · rw [if_pos w, if_pos (e1 ▸ w)]; exact ⟨e1, ra⟩
      · rw [if_neg w, if_neg (e1 ▸ w)]; exact ⟨e1, e2⟩
  · rw [if_neg w, if_neg w]
    exact r.append (.cons ⟨rfl, ra⟩ .nil)
theorem W_setItem_tdict {d : Addr} {l : List (List Str × AV)} {ks : List Str} {b : AV} {Q : Unit → AEnv → AH → Prop} (hd : H d = some (.tdict l)) (hz : l.length ≤ 1000000) (q : Q () am (upd H d (.tdict (tstoreA l ks b)))) :
    W3 c k rest env RU b (.ref d) (.tup (ks.map .str)) (fun v o i => setItem o i v) am H Q := fun A s E v u w o a S r r' r'' => by
  subst r'; obtain ⟨t, vs, rfl, ht, rv⟩ := r''
  obtain ⟨_, _, m, xs, D, rx⟩ := S.objs _ _ hd
  obtain ⟨ob, es, ep, e, ex, dd, _⟩ := id D
  refine wpAny_setItem_heap (knd := tupleKind (PySem.strKind pw c.w)) a.key (key_R rv ht) D (fun h' D' sb => ?_) (by rw [rx.len, sizeLine_eq]; lia)
  have kp : ∀ b o, b ≠ d → s.heap.get? b = some o → h'.get? b = some o := fun b o z e => (sb.2 b z).trans e
  have x' : TupExt s.heap h' := tupExt_of e (by rw [ex.1]; simp) kp
  exact Post.intro (a := ()) trivial (Ext.of_upd hd x' kp) (S.upd hd kp x' (o' := .tdict (tstoreA l ks b)) ⟨m, _, D', tstore_R (rx.mono fun _ _ z => ⟨z.1, z.2.mono x'⟩) (r.mono x')⟩) q
end
/-- a dict as its entries alone -/
noncomputable def RawD (h : Heap) (d : Addr) (es : Array DictEntry) (ep : Nat) : Prop := ∃ o, h.get? d = some o ∧ o.cls = .type "dict" ∧ o.data = .dict es ep
theorem RawD.at {h h' : Heap} {d : Addr} {es : Array DictEntry} {ep : Nat} (x : RawD h d es ep) (e : ∀ o, h.get? d = some o → h'.get? d = some o) : RawD h' d es ep := let ⟨o, ho, r⟩ := x; ⟨o, e _ ho, r⟩
section
variable {p : Program} {w : World} {A : Around} {E : Value → Shared → Prop} {s : Shared}
theorem raw_iter {v d : Addr} {es : Array DictEntry} {ep : Nat} {Q : Value → Shared → Prop} (hv : s.heap.IsValuesView v d) (hm : RawD s.heap d es ep)
    (hQ : Q (.ref s.heap.objs.size) { s with heap := s.heap.push { cls := .type "dict_valueiterator", data := .fields #[.ref d, .int 0 0, .int es.size 0, .int ep 0] } }) :
    wpAny (model p w) A (pyIter (.ref v)) Q E s := by
  refine hide fun P' hP' => ?_
  obtain ⟨ov, hov, hcv, hdv⟩ := id hv
  refine hP' ?_
  refine hide fun P' hP' => ?_
  obtain ⟨o, ho, hc, hdat⟩ := id hm
  refine hP' ?_
  refine wpAny_pyIter_slot hv.typeIs PySem.F.slot_dict_values_iter (wpAny_call_entry PySem.F.slot_dict_values_iter hv.typeIs PySem.F.entry_dict_values_iter ?_ (PySem.F.args_dict_values_iter_1 _))
  unfold Builtin.«dict_values.__iter__»
  refine wpAny_bind (wpAny_pure ?_)
  refine wpAny_bind ?_
  unfold Builtin.Dict_items.dictOf
  refine wpAny_bind (wpAny_field hov hdv (x := .ref d) rfl (wpAny_pure ?_))
  refine wpAny_bind ?_
  unfold Builtin.Dict_items.newIterator
  refine wpAny_bind (wpAny_dictEntries ho hdat ?_)
  refine wpAny_bind (wpAny_dictEpoch ho hdat ?_)
  have hown : Builtin.Dict_items.ownsTuple "dict_valueiterator" = false := by decide
  simp only [hown, Bool.false_eq_true, if_false]
  refine wpAny_newObj_type (wpAny_pure ⟨_, rfl, "dict_valueiterator", _, ⟨_, Heap.get?_push_size _ rfl, rfl⟩, PySem.F.slot_dict_valueiterator_next.lookup, ?_⟩)
  simpa [rawInt] using hQ
theorem raw_walks (hh : A.handled = none) (I d : Addr) (hne : d ≠ I) (es : Array DictEntry) (ep : Nat) :
    Walks p w A I [I, d] [I] es.size (fun i v => ∃ e, es[i]? = some e ∧ v = e.val) (fun i h => h.IsValIter I d i es.size ep ∧ RawD h d es ep) where
  sub := fun b hb => by simp at hb; simp [hb]
  frame := fun _ _ _ st hk => ⟨st.1.at fun o e => hk I (by simp) o e, st.2.at fun o e => hk d (by simp) o e⟩
  item := fun i s Q E hi st hQ => by
    obtain ⟨hit, hm⟩ := id st
    refine hide fun P' hP' => ?_
    obtain ⟨o, ho, hc, hd⟩ := id hit
    refine hP' ?_
    refine hide fun P' hP' => ?_
    obtain ⟨od, hod, hcd, hdd⟩ := id hm
    refine hP' ?_
    unfold pyNext
    refine wpAny_bind (wpAny_attempt (wpAny_callSpecial?_slot (name := Str.ofString "__next__") hit.typeIs PySem.F.slot_dict_valueiterator_next
      (wpAny_call_entry PySem.F.slot_dict_valueiterator_next hit.typeIs PySem.F.entry_dict_valueiterator_next ?_ (PySem.F.args_dict_valueiterator_next_1 _))))
    refine wpAny_bind (wpAny_pure ?_)
    refine wpAny_bind ?_
    refine wpAny_bind ?_
    first | refine wpAny_bind (wpAny_typeNameOfWhole_valiter hit.typeIs (wpAny_pure ?_)) | refine wpAny_bind (wpAny_typeNameOf_valiter hit.typeIs (wpAny_pure ?_))
    refine wpAny_bind (wpAny_fieldsOf ho hd ?_)
    have hown : Builtin.Dict_items.ownsTuple "dict_valueiterator" = false := by decide
    rw [if_neg (show ¬ (Builtin.Dict_items.ownsTuple "dict_valueiterator" = true) from by rw [hown]; exact Bool.false_ne_true)]
    show wpAny _ _ (if (Value.ref d == Value.none) = true then _ else _) _ _ s
    rw [if_neg (show ¬ ((Value.ref d == Value.none) = true) from Bool.false_ne_true)]
    refine wpAny_bind (wpAny_pure ?_)
    refine wpAny_bind (wpAny_dictEntries hod hdd ?_)
    rw [if_neg (by simp)]
    refine wpAny_bind (wpAny_pure ?_)
    refine wpAny_bind (wpAny_dictEpoch hod hdd ?_)
    rw [if_neg (by simp)]
    refine wpAny_pure ?_
    simp only [show ¬ ((i : Int) < 0) from by lia, if_false, Int.toNat_natCast, Array.getElem?_eq_getElem hi]
    refine wpAny_bind ?_
    first | refine wpAny_bind (wpAny_typeNameOfWhole_valiter hit.typeIs (wpAny_pure ?_)) | refine wpAny_bind (wpAny_typeNameOf_valiter hit.typeIs (wpAny_pure ?_))
    refine wpAny_bind (wpAny_isOneOf_valiter hit.typeIs ?_)
    show wpAny _ _ (setField (.ref I) 1 (rawInt ((i : Int) + 1)) >>= _) _ _ s
    refine wpAny_bind (wpAny_setField ho hd (by simp) ?_)
    have hit' : (s.heap.update I (Obj.mapFields (·.setIfInBounds 1 (rawInt ((i : Int) + 1))))).IsValIter I d (i + 1) es.size ep :=
      ⟨_, Heap.get?_update_self _ ho (Obj.isFreed_of_fields (Obj.data_mapFields hd _)), (Obj.cls_mapFields ..).trans hc, by rw [Obj.data_mapFields hd]; simp [rawInt]⟩
    refine wpAny_bind (wpAny_holding ?_)
    refine wpAny_bind (wpAny_isOneOf_valiter (s := { s with heap := s.heap.update I (Obj.mapFields (·.setIfInBounds 1 (rawInt ((i : Int) + 1)))) }) hit'.typeIs ?_)
    refine wpAny_bind (wpAny_isOneOf_valiter (s := { s with heap := s.heap.update I (Obj.mapFields (·.setIfInBounds 1 (rawInt ((i : Int) + 1)))) }) hit'.typeIs ?_)
    show wpAny _ _ (pure es[i].val) _ _ _
    refine wpAny_pure (wpAny_pure ⟨_, rfl, wpAny_pure (hQ es[i].val _ s.toks ⟨es[i], by simp [hi], rfl⟩ ⟨hit', hm.at fun o e => (Heap.get?_update_ne _ _ _ _ hne).trans e⟩ fun b o hb e => (Heap.get?_update_ne _ _ _ _ (by simpa using hb)).trans e)⟩)
  done := fun s Q E st hQ => by
    obtain ⟨hit, hm⟩ := id st
    refine hide fun P' hP' => ?_
    obtain ⟨o, ho, hc, hd⟩ := id hit
    refine hP' ?_
    refine hide fun P' hP' => ?_
    obtain ⟨od, hod, hcd, hdd⟩ := id hm
    refine hP' ?_
    unfold pyNext
    refine wpAny_bind (wpAny_attempt (wpAny_callSpecial?_slot (name := Str.ofString "__next__") hit.typeIs PySem.F.slot_dict_valueiterator_next
      (wpAny_call_entry PySem.F.slot_dict_valueiterator_next hit.typeIs PySem.F.entry_dict_valueiterator_next ?_ (PySem.F.args_dict_valueiterator_next_1 _))))
    refine wpAny_bind (wpAny_pure ?_)
    refine wpAny_bind ?_
    refine wpAny_bind ?_
    first | refine wpAny_bind (wpAny_typeNameOfWhole_valiter hit.typeIs (wpAny_pure ?_)) | refine wpAny_bind (wpAny_typeNameOf_valiter hit.typeIs (wpAny_pure ?_))
    refine wpAny_bind (wpAny_fieldsOf ho hd ?_)
    have hown : Builtin.Dict_items.ownsTuple "dict_valueiterator" = false := by decide
    rw [if_neg (show ¬ (Builtin.Dict_items.ownsTuple "dict_valueiterator" = true) from by rw [hown]; exact Bool.false_ne_true)]
    show wpAny _ _ (if (Value.ref d == Value.none) = true then _ else _) _ _ s
    rw [if_neg (show ¬ ((Value.ref d == Value.none) = true) from Bool.false_ne_true)]
    refine wpAny_bind (wpAny_pure ?_)
    refine wpAny_bind (wpAny_dictEntries hod hdd ?_)
    rw [if_neg (by simp)]
    refine wpAny_bind (wpAny_pure ?_)
    refine wpAny_bind (wpAny_dictEpoch hod hdd ?_)
    rw [if_neg (by simp)]
    refine wpAny_pure ?_
    simp only [show ¬ ((es.size : Int) < 0) from by lia, if_false, Int.toNat_natCast, Array.getElem?_eq_none (Nat.le_refl _)]
    refine wpAny_bind ?_
    first | refine wpAny_bind (wpAny_typeNameOfWhole_valiter hit.typeIs (wpAny_pure ?_)) | refine wpAny_bind (wpAny_typeNameOf_valiter hit.typeIs (wpAny_pure ?_))
    show wpAny _ _ (setField (.ref I) 0 .none >>= _) _ _ s
    refine wpAny_bind (wpAny_setField ho hd (by simp) ?_)
    show wpAny _ _ (newExc (.type "StopIteration") [] >>= _) _ _ _
    refine wpAny_bind ?_
    simp only [newExc, newTuple]
    refine wpAny_bind (wpAny_newObj_type ?_ (by size_fits))
    refine wpAny_bind (m := firstArgMember _ _) (wpAny_of_eq (a := Value.none) (by first | rfl | (simp only [firstArgMember]; rfl)) ?_)
    refine wpAny_newObj_type ?_ (by size_fits)
    refine wpAny_raiseNew_none hh ?_
    refine wpAny_bind (wpAny_isInstance (T := "StopIteration") (b := true) ⟨_, Heap.get?_push_size _ rfl, rfl⟩ isSubtype_stop ?_)
    exact wpAny_pure (hQ _ s.toks fun b o hb e => (((Heap.SameBut.update ..).extBut.push _).push _) b o (by simpa using hb) e)
  self := fun _ _ _ _ st hQ => wpAny_pyIter_valiter st.1 hQ
theorem raw_src {v d : Addr} {es : Array DictEntry} {ep : Nat} : KdlSrc p w "dict_values" v d es.size (fun i v => ∃ e, es[i]? = some e ∧ v = e.val) (fun h => h.IsValuesView v d ∧ RawD h d es ep) where
  type := fun _ hm => hm.1.typeIs
  there := fun _ hm => ⟨let ⟨_, ho, _⟩ := hm.1; Heap.lt_size ho, let ⟨_, ho, _⟩ := hm.2; Heap.lt_size ho⟩
  keep := fun _ _ hm hk => ⟨let ⟨o, ho, x⟩ := hm.1; ⟨o, hk v (.inl rfl) o ho, x⟩, hm.2.at fun o e => hk d (.inr rfl) o e⟩
  notList := by decide
  notTuple := by decide
  hint := fun _ _ _ _ hm hq => kdl_hint_values hm.1.typeIs hq
  iter := fun _ _ hh hm => ⟨_, _, (fun _ _ hq => raw_iter hm.1 hm.2 hq), raw_walks hh _ d (by obtain ⟨_, ho, _⟩ := hm.2; exact Nat.ne_of_lt (Heap.lt_size ho)) es ep, ⟨⟨_, Heap.get?_push_size _ rfl, rfl, rfl⟩, hm.2.at fun o e => Heap.get?_push_of_some _ e⟩⟩
theorem raw_values (d : Addr) (hd : (d == sysModules) = false) :
    MeetsIn p w (Builtin.«dict.values» ⟨[.ref d], []⟩) (fun _ R s => (∃ es ep, RawD s.heap d es ep) ∧
      R (.ok (.ret (.ref s.heap.objs.size))) { s with heap := s.heap.push { cls := .type "dict_values", data := .fields #[.ref d] } }) :=
  .of_wp fun A R s ⟨⟨es, ep, o, ho, hc, hdd⟩, h⟩ => by
    refine wpAny_bind ?_
    unfold Builtin.Dict.noArgs
    refine wpAny_bind (wpAny_notOrdered_dict ⟨o, ho, hc⟩ ?_)
    show wpAny _ _ (pure d) _ _ s
    refine wpAny_pure ?_
    show wpAny _ _ (Builtin.Dict.showsAll d >>= _) _ _ s
    unfold Builtin.Dict.showsAll
    rw [if_neg (by rw [hd]; exact Bool.false_ne_true)]
    refine wpAny_bind (wpAny_pure ?_)
    exact wpAny_bind (wpAny_newObj_type (wpAny_pure ⟨_, rfl, h⟩))
end

section
variable {c : Cfg} {k : Nat} {rest : List Frm} {env : Env} {α β : Type} {R : Heap → β → α → Prop} {am : AEnv} {H : AH} {h : Heap}
theorem WM_tdict {d : Addr} {l : List (List Str × AV)} {id : String} {name : Str} {args : List Expr} {pos : Pos} {Q : AV → AEnv → AH → Prop} (hl : H d = some (.tdict l)) (slot : Slot "dict" name id) (hty : typeOf (.builtin id) = pure (.type "method_descriptor"))
    (w : W c k rest env RV (callWith pos (.builtin id) [.ref d] (backTo pos (starEach args env)) []) am H Q) : WM c k rest env (.ref d) name args pos am H Q := fun A s E v pl o a S r => by
  subst r
  refine hide fun P' hP' => ?_
  obtain ⟨_, _, m, xs, ⟨ob, es, ep, e, ex, _⟩, _⟩ := S.objs _ _ hl
  refine hP' ?_
  exact getMethod_builtin (T := "dict") ⟨_, e, ex.1⟩ PySem.F.plainAttrs_dict slot hty (fun a e' => by cases e'; exact ⟨ob, e, ex.2.1⟩) (w A s E o a S)
theorem W_values {d : Addr} {l : List (List Str × AV)} {Q : AV → AEnv → AH → Prop} (hl : H d = some (.tdict l)) (q : ∀ v, H v = none → Q (.ref v) am (upd H v (.view d))) : Wn c k rest env RV [.ref d] (fun vs => call (.builtin "dict.values") vs) am H Q := fun A s E vs o a S r => by
  obtain ⟨_, _, rfl, rfl, rfl⟩ := r
  refine hide fun P' hP' => ?_
  obtain ⟨_, _, m, xs, ⟨ob, es, ep, e, ex, dd, _⟩, _⟩ := S.objs _ _ hl
  refine hP' ?_
  have nI : s.heap.get? s.heap.objs.size = none := Heap.get?_none_of_le (Nat.le_refl _)
  refine call_meetsIn PySem.F.slot_dict_values ⟨_, e, ex.1⟩ PySem.F.entry_dict_values (PySem.F.args_dict_values_1 _) (raw_values d m) ⟨⟨es, ep, ob, e, ex.1, dd⟩, ?_⟩
  exact Post.intro (R := RV) (a := .ref s.heap.objs.size) (tk := s.toks) (by simp only [VR]) (Ext.of_alloc (Keeps.push _ _) nI) (S.alloc (Keeps.push _ _) nI (o := .view d) ⟨_, Heap.get?_push_size _ rfl, rfl, rfl⟩) (q _ (S.fresh nI))
theorem W_listView {v d : Addr} {l : List (List Str × AV)} {Q : AV → AEnv → AH → Prop} (hv : H v = some (.view d)) (hl : H d = some (.tdict l)) (hz : l.length ≤ 1000000) (q : ∀ b, H b = none → Q (.ref b) am (upd H b (.list (l.map (·.2))))) : Wn c k rest env RV [.ref v] (fun vs => call (.type "list") vs) am H Q := fun A s E vs o a S r => by
  obtain ⟨_, _, rfl, rfl, rfl⟩ := r
  refine hide fun P' hP' => ?_
  obtain ⟨_, _, m, xs, ⟨ob, es, ep, e, ex, dd, he, _, _⟩, rx⟩ := S.objs _ _ hl
  refine hP' ?_
  have V := (S.objs _ _ hv).2.2
  have nI : s.heap.get? s.heap.objs.size = none := Heap.get?_none_of_le (Nat.le_refl _)
  have hsz : es.size = l.length := by rw [size_of_entries he, rx.len]
  refine kdl_call raw_src a.handled ⟨V, ob, e, ex.1, dd⟩ (by rw [hsz, sizeLine_eq]; lia) fun h' tk acc n kp e' hacc => ?_
  have kp : Keeps s.heap h' := kp
  refine Post.intro (R := RV) (a := .ref s.heap.objs.size) (by simp only [VR]) (Ext.of_alloc kp nI) (S.alloc kp nI (o := .list (l.map (·.2))) ⟨acc.toList, n, by rw [e'], ?_⟩) (q _ (S.fresh nI))
  have key : ∀ {l : List (List Str × AV)} {xs : List (List Str × Addr × Value)}, All2 (TR s.heap) l xs → VRs s.heap (l.map (·.2)) (xs.map (·.2.2)) := by
    intro l xs r
    induction r with
    | nil => simp only [List.map_nil, VRs]
    | cons p _ ih => simp only [List.map_cons, VRs]; exact ⟨_, _, rfl, p.2, ih⟩
  have eacc : acc.toList = xs.map (·.2.2) := by
    refine List.ext_getElem? fun j => ?_
    by_cases hj : j < acc.size
    · obtain ⟨en, h1, h2⟩ := hacc.2 j acc[j] (by simp [hj])
      rw [entry_at he] at h1
      obtain ⟨x, hx, rfl⟩ := Option.map_eq_some_iff.mp h1
      rw [Array.getElem?_toList, Array.getElem?_eq_getElem hj, List.getElem?_map, hx, h2]
      rfl
    · rw [Array.getElem?_toList, Array.getElem?_eq_none (by lia), List.getElem?_eq_none]
      rw [List.length_map, rx.len, ← hsz]
      have := hacc.1
      lia
  rw [eacc]
  exact (key rx).mono kp.tup
theorem W_tupleList {l : Addr} {as : List AV} {Q : AV → AEnv → AH → Prop} (hl : H l = some (.list as)) (hz : as.length ≤ 1000000) (q : Q (.tup as) am H) : Wn c k rest env RV [.ref l] (fun vs => call (.type "tuple") vs) am H Q := fun A s E vs o a S r => by
  obtain ⟨_, _, rfl, rfl, rfl⟩ := r
  refine hide fun P' hP' => ?_
  obtain ⟨_, _, vs, n, e, rv⟩ := S.objs _ _ hl
  refine hP' ?_
  refine call_tuple_list (items := vs.toArray) ⟨_, e, rfl, n, rfl⟩ (fun h' kp => ?_) (by rw [List.size_toArray, rv.length, sizeLine_eq]; lia)
  have kp : Keeps s.heap h' := kp
  have k2 := kp.trans (Keeps.push h' { cls := .type "tuple", data := .seq vs.toArray })
  refine Post.intro (R := RV) (a := .tup as) (tk := s.toks) ?_ (Ext.of_keeps k2) (S.keeps k2) q
  exact ⟨_, vs, rfl, IsTup.new _ _, rv.mono k2.tup⟩
theorem strs_R {h : Heap} : ∀ {l : List Str} {vs : List Value}, StrsAre vs l → VRs h (l.map .str) vs
  | _, _, .nil => by simp only [List.map_nil, VRs]
  | _, _, .cons x t r => by simp only [List.map_cons, VRs, VR]; exact ⟨_, _, rfl, ⟨t, rfl⟩, strs_R r⟩
theorem keys_R {h : Heap} {l : List (Str × AV)} {kvs : List (Str × Value)} (r : All2 (PairR h) l kvs) : kvs.map (·.1) = l.map (·.1) := by
  induction r with
  | nil => rfl
  | cons p _ ih => rw [List.map_cons, List.map_cons, ih, p.1]
theorem strs_of : ∀ {vs : List Value} {ks : List Str}, vs.length = ks.length → (∀ (j : Nat) (v : Value), vs[j]? = some v → ∃ k t, ks[j]? = some k ∧ v = Value.str k t) → StrsAre vs ks
  | [], [], _, _ => .nil
  | v :: vs, k :: ks, hl, h => by
    obtain ⟨k', t, e1, rfl⟩ := h 0 v rfl
    simp at e1; subst e1
    exact .cons k t (strs_of (by simpa using hl) fun j v e => h (j + 1) v (by simpa using e))
/-- sorted of a dict: its keys, in some order -/
theorem W_sortedDict {d : Addr} {l : List (Str × AV)} {Q : AV → AEnv → AH → Prop} (hl : H d = some (.dict l)) (hz : l.length < 64) (q : ∀ (b : Addr) (ks : List Str), H b = none → ks.Perm (l.map (·.1)) → Q (.ref b) am (upd H b (.list (ks.map .str)))) : Wn c k rest env RV [.ref d] (fun vs => call (.builtin "sorted") vs) am H Q := fun A s E vs o a S r => by
  obtain ⟨_, _, rfl, rfl, rfl⟩ := r
  refine hide fun P' hP' => ?_
  obtain ⟨_, _, m, kvs, D, rk⟩ := S.objs _ _ hl
  refine hP' ?_
  obtain ⟨ep, D'⟩ := D.dictAt
  have hlen : kvs.length = l.length := rk.len
  refine call_function_entry kind_sorted plain_sorted entry_sorted (args_sorted1 _) ?_
  unfold Builtin.«sorted»
  refine wpAny_bind (m := checkCount "sorted" 1 1 _) (wpAny_pure ?_)
  refine wpAny_bind (kdu_collect (A := A.in1) (kdl_dict (knd := PySem.strKind pw c.w) (kvs := kvs) (ep := ep) m) a.handled D' (by rw [hlen, sizeLine_eq]; lia) fun h' tk acc hk hacc => ?_)
  have hl' : acc.toList.length = kvs.length := by rw [Array.length_toList]; exact hacc.1
  have hS : StrsAre acc.toList (kvs.map (·.1)) := strs_of (by rw [hl', List.length_map]) fun j v e => by
    rw [Array.getElem?_toList] at e
    refine hide fun P' hP' => ?_
    obtain ⟨key, y, hk', hs⟩ := hacc.2 j v e
    refine hP' ?_
    obtain ⟨t, rfl⟩ := Value.isStrOf_shape hs
    exact ⟨key, t, by rw [List.getElem?_map, hk']; rfl, rfl⟩
  refine wpAny_bind (wpAny_newList ?_ (by rw [hl', hlen, sizeLine_eq]; lia))
  have ho : (h'.push { cls := .type "list", data := .seq acc.toList.toArray }).get? h'.objs.size = some (seqObj "list" acc.toList.toArray 0) := Heap.get?_push_size _ rfl
  have k1 : Keeps s.heap (h'.push { cls := .type "list", data := .seq acc.toList.toArray }) := (show Keeps s.heap h' from hk).trans (Keeps.push _ _)
  refine wpAny_bind (wpAny_holding (wpAny_call_entry PyProof.Rows.slot_list_sort ⟨_, ho, rfl⟩ PyProof.Rows.entry_list_sort (list_sort_treeK (κ := PyProof.Rows.strKind) strKind_oneLt (n := 0) (vs := acc.toList) ho hS.keysOf (fun v₁ v₂ rest e => keyKind_strs (by rw [← e]; exact hS)) (by rw [hl', hlen]; exact hz) fun st' hp hs => ⟨.none, rfl, ?_⟩) (PyProof.Rows.args_list_sort _)))
  refine wpAny_pure ⟨_, rfl, ?_⟩
  refine hide fun P' hP' => ?_
  obtain ⟨ss', h1, h2, h3⟩ := sorted_out_str hS hp hs
  refine hP' ?_
  obtain ⟨ep', he'⟩ := sortedHeap_at (out := (arrOf st').map (·.2)) ho
  have nA : s.heap.get? h'.objs.size = none := by
    cases z : s.heap.get? h'.objs.size with
    | none => rfl
    | some ob => exact absurd (Heap.lt_size (hk _ _ z)) (Nat.lt_irrefl _)
  have k2 : Keeps s.heap (sortedHeap (h'.push { cls := .type "list", data := .seq acc.toList.toArray }) h'.objs.size acc.toList ((arrOf st').map (·.2))) := fun b ob e => by
    have e1 := k1 b ob e
    rw [sortedHeap_old (by rintro rfl; rw [nA] at e; cases e) (Heap.lt_size e1)]; exact e1
  have keys : kvs.map (·.1) = l.map (·.1) := by
    exact keys_R rk
  exact Post.intro (R := RV) (a := .ref h'.objs.size) (by simp only [VR]) (Ext.of_alloc k2 nA) (S.alloc k2 nA (o := .list (ss'.map .str)) ⟨_, ep', by rw [he', Array.toArray_toList], (strs_R h1)⟩) (q _ ss' (S.fresh nA) (keys ▸ h2))
end
mutual
/-- a value that is data through and through -/
noncomputable def dat : AV → Option PyData
  | .at .none => some .none
  | .at (.bool b) => some (.bool b)
  | .at _ => none
  | .int i => some (.int i)
  | .str x => some (.str x)
  | .tup l => (datL l).map .tuple
noncomputable def datL : List AV → Option (List PyData)
  | [] => some []
  | a :: l => (dat a).bind fun d => (datL l).map (d :: ·)
end
theorem dat_tup {l : List AV} {ds : List PyData} (h : datL l = some ds) : dat (.tup l) = some (.tuple ds) := congrArg (Option.map _) h
theorem datL_cons {a : AV} {l : List AV} {d : PyData} {ds : List PyData} (h : dat a = some d) (h' : datL l = some ds) : datL (a :: l) = some (d :: ds) := by
  show (dat a).bind (fun d => (datL l).map (d :: ·)) = _
  rw [h, h']; rfl
theorem dat_two {l : List AV} {d : PyData} (h : dat (.tup l) = some d) : PyData.eqv d (.str "two") = false := by
  obtain ⟨ds, _, rfl⟩ := Option.map_eq_some_iff.mp h
  simp [PyData.eqv]
mutual
theorem reads_of {h : Heap} : ∀ {a : AV} {v : Value} {d : PyData}, VR h a v → dat a = some d → Reads h v d []
  | .at u, v, d, r, e => by
    subst r
    cases v <;> first | (cases e; first | exact .none | exact .bool _) | cases e
  | .int i, v, d, r, e => by
    obtain ⟨t, rfl⟩ := r
    cases e; exact .int _ _
  | .str i, v, d, r, e => by
    obtain ⟨t, rfl⟩ := r
    cases e; exact .str _ _
  | .tup l, v, d, r, e => by
    obtain ⟨t, vs, rfl, ⟨o, ho, hc, n, hd⟩, rv⟩ := r
    obtain ⟨ds, q, rfl⟩ := Option.map_eq_some_iff.mp e
    exact .tuple ho hc hd (by rw [List.toList_toArray]; exact readsL_of rv q)
theorem readsL_of {h : Heap} : ∀ {l : List AV} {vs : List Value} {ds : List PyData}, VRs h l vs → datL l = some ds → ReadsAll h vs ds []
  | [], vs, ds, r, e => by
    subst r
    cases e; exact .nil
  | a :: l, _, ds, r, e => by
    obtain ⟨v, q, rfl, r1, r2⟩ := r
    obtain ⟨d, q1, e⟩ := Option.bind_eq_some_iff.mp e
    obtain ⟨ds', q2, rfl⟩ := Option.map_eq_some_iff.mp e
    have := ReadsAll.cons (reads_of r1 q1) (readsL_of r2 q2)
    simpa using this
end
mutual
theorem eqv_self : ∀ d : PyData, d.canLay0 = true → PyData.eqv d d = true
  | .none, _ => by simp [PyData.eqv]
  | .bool _, _ => by simp [PyData.eqv]
  | .int _, _ => by simp [PyData.eqv]
  | .str _, _ => by simp [PyData.eqv]
  | .list l, h => by simp only [PyData.canLay0] at h; simp only [PyData.eqv]; exact eqvL_self l h
  | .tuple l, h => by simp only [PyData.canLay0] at h; simp only [PyData.eqv]; exact eqvL_self l h
  | .dict _, h => by simp [PyData.canLay0] at h
theorem eqvL_self : ∀ l : List PyData, PyData.canLayAll0 l = true → PyData.eqvAll l l = true
  | [], _ => by simp [PyData.eqvAll]
  | a :: l, h => by
    simp only [PyData.canLayAll0, Bool.and_eq_true] at h
    simp only [PyData.eqvAll, Bool.and_eq_true]
    exact ⟨eqv_self a h.1, eqvL_self l h.2⟩
end
theorem AOk.eqroom {A : Around} {k : Nat} {es : List Env} (a : AOk A (k + 7) es) : A.units + 64 < cLine := by have := a.units; lia
theorem AOk.eqroom1 {A : Around} {k : Nat} {es : List Env} (a : AOk A (k + 7) es) : A.in1.units + 64 < cLine := by have := a.units; show A.units + 1 + 64 < _; lia
section
variable {c : Cfg} {k : Nat} {rest : List Frm} {env : Env} {α β : Type} {R : Heap → β → α → Prop} {am : AEnv} {H : AH} {h : Heap}
theorem W_ne_dat {a b : AV} {da db : PyData} {Q : AV → AEnv → AH → Prop} (ea : dat a = some da) (eb : dat b = some db) (sa : SeqAt.shaped da = true) (sb : SeqAt.shaped db = true) (q : Q (.bool (!PyData.eqv da db)) am H) : W2 c (k + 7) rest env RV a b (compareOp .NotEq) am H Q := fun A s E v u o ok S r r' =>
  ne_dataH (reads_of r ea) (reads_of r' eb) sa sb ok.eqroom (Post.here (a := .bool (!PyData.eqv da db)) (by simp only [RV, VR]) S q)
theorem reads_list {l : Addr} {as : List AV} {ds : List PyData} {s : Shared} {fs : List Frm} (S : St c fs H s.heap) (hl : H l = some (.list as)) (e : datL as = some ds) : ∃ as', Reads s.heap (.ref l) (.list ds) as' := by
  refine hide fun P' hP' => ?_
  obtain ⟨_, _, vs, n, e1, rv⟩ := S.objs _ _ hl
  refine hP' ?_
  exact ⟨_, .list e1 rfl rfl (by rw [List.toList_toArray]; exact readsL_of rv e)⟩
/-- two lists of data -/
theorem W_eq_lists {l b : Addr} {as bs : List AV} {da db : List PyData} {Q : AV → AEnv → AH → Prop} (hl : H l = some (.list as)) (hb : H b = some (.list bs)) (ea : datL as = some da) (eb : datL bs = some db) (sa : SeqAt.shaped (.list da) = true) (sb : SeqAt.shaped (.list db) = true) (q : Q (.bool (PyData.eqvAll da db)) am H) :
    W2 c (k + 7) rest env RV (.ref l) (.ref b) (compareOp .Eq) am H Q := fun A s E v u o ok S r r' => by
  subst r; subst r'
  obtain ⟨x, rx⟩ := reads_list S hl ea
  obtain ⟨y, ry⟩ := reads_list S hb eb
  exact eq_dataH rx ry sa sb ok.eqroom (Post.here (a := .bool (PyData.eqvAll da db)) (by simp only [RV, VR, PyData.eqv]) S q)
/-- a list against an empty one -/
theorem W_ne_nil {l b : Addr} {as : List AV} {Q : AV → AEnv → AH → Prop} (hl : H l = some (.list as)) (hb : H b = some (.list [])) (q : Q (.bool (!as.isEmpty)) am H) : W2 c (k + 7) rest env RV (.ref l) (.ref b) (compareOp .NotEq) am H Q := fun A s E v u o ok S r r' => by
  cases as with
  | nil =>
    subst r; subst r'
    obtain ⟨x, rx⟩ := reads_list S hl rfl
    obtain ⟨y, ry⟩ := reads_list S hb rfl
    exact ne_dataH rx ry (by decide) (by decide) ok.eqroom (Post.here (a := .bool false) (by simp [RV, VR, PyData.eqv, PyData.eqvAll]) S q)
  | cons a as =>
    subst r; subst r'
    refine hide fun P' hP' => ?_
    obtain ⟨_, _, vs, n, e1, rv⟩ := S.objs _ _ hl
    refine hP' ?_
    refine hide fun P' hP' => ?_
    obtain ⟨_, _, ws, n2, e2, rw'⟩ := S.objs _ _ hb
    refine hP' ?_
    subst rw'
    refine richCompare_meets_room (op := .NotEq) ⟨_, e1, rfl⟩ ⟨_, e2, rfl⟩ PySem.F.slot_list_ne PySem.F.entry_list_ne (PySem.F.args_list_ne_2 _ _) (SeqAt.list_ne_lengthsAt l b vs.toArray ([] : List Value).toArray n n2 none none #[] #[] (by
      have := rv.length
      rw [List.size_toArray, this]; simp)) ⟨e1, e2, ?_⟩ (by have := ok.eqroom; lia)
    exact ⟨(fun x => nomatch x), Post.here (R := RV) (a := .bool true) (by simp only [RV, VR]) S q⟩
/-- a text in a tuple of texts -/
theorem W_in_tup {x : Str} {ys : List Str} {Q : AV → AEnv → AH → Prop} (q : Q (.bool (ys.any (· == x))) am H) : W2 c k rest env RV (.str x) (.tup (ys.map .str)) (compareOp .In) am H Q := fun A s E v u o a S r r' => by
  obtain ⟨t, rfl⟩ := r
  obtain ⟨b, vs, rfl, ht, rv⟩ := r'
  have key : ∀ {ys : List Str} {vs : List Value}, VRs s.heap (ys.map .str) vs → StrsAre vs ys := by
    intro ys
    induction ys with
    | nil => intro vs r; simp only [List.map_nil, VRs] at r; subst r; exact .nil
    | cons y ys ih =>
      intro vs r
      simp only [List.map_cons, VRs, VR] at r
      obtain ⟨v, q, rfl, ⟨t, rfl⟩, r2⟩ := r
      exact .cons y t (ih r2)
  exact in_tuple_strs ht (by rw [List.toList_toArray]; exact key rv) (Post.here (a := .bool (ys.any (· == x))) (by simp only [RV, VR]) S q)
theorem strsAre_of {h : Heap} : ∀ {ys : List Str} {vs : List Value}, VRs h (ys.map .str) vs → StrsAre vs ys := by
  intro ys
  induction ys with
  | nil => intro vs r; simp only [List.map_nil, VRs] at r; subst r; exact .nil
  | cons y ys ih =>
    intro vs r
    simp only [List.map_cons, VRs, VR] at r
    obtain ⟨v, q, rfl, ⟨t, rfl⟩, r2⟩ := r
    exact .cons y t (ih r2)
theorem W_notIn_list {x : Str} {l : Addr} {ys : List Str} {Q : AV → AEnv → AH → Prop} (hl : H l = some (.list (ys.map .str))) (q : Q (.bool (!ys.any (· == x))) am H) : W2 c k rest env RV (.str x) (.ref l) (compareOp .NotIn) am H Q := fun A s E v u o a S r r' => by
  obtain ⟨t, rfl⟩ := r; subst r'
  refine hide fun P' hP' => ?_
  obtain ⟨_, _, vs, n, e1, rv⟩ := S.objs _ _ hl
  refine hP' ?_
  exact notin_list_strs (ys := ys) ⟨_, e1, rfl, n, rfl⟩ (strsAre_of rv) (Post.here (a := .bool (!ys.any (· == x))) (by simp only [RV, VR]) S q)

/-- two dicts -/
theorem hits_of {A : Around} {s : Shared} (hu : A.in1.units + 64 < cLine) {l l' : List (Str × AV)} {ka kb : List (Str × Value)} (ra : All2 (PairR s.heap) l ka) (rb : All2 (PairR s.heap) l' kb)
    (hd : ∀ p ∈ l, ∃ d, dat p.2 = some d ∧ SeqAt.shaped d = true ∧ ∃ b d', valA l' p.1 = some b ∧ dat b = some d' ∧ SeqAt.shaped d' = true ∧ PyData.eqv d d' = true) : W.KeqHits A.in1 s kb ka true := by
  induction ra with
  | nil => exact .nil
  | @cons p q l r pq _ ih =>
    refine hide fun P' hP' => ?_
    obtain ⟨d, e1, e2, b, d', e3, e4, e5, e6⟩ := hd p (.head _)
    refine hP' ?_
    obtain ⟨y, hy, ry⟩ := (valA_some (x := p.1) rb).1 _ e3
    have z := ih fun p' m => hd p' (.tail _ m)
    obtain ⟨q1, q2⟩ := q
    obtain ⟨w1, w2⟩ := pq
    dsimp only at w1 w2
    have h1 : SeqAt.EqAt A.in1 s q2 y true := e6 ▸ W.keq_at (reads_of w2 e1) (reads_of ry e4) e2 e5 hu
    exact W.KeqHits.hit (e := true) (b := true) (w1 ▸ hy) h1 z
theorem W_ne_dicts {a b : Addr} {l l' : List (Str × AV)} {Q : AV → AEnv → AH → Prop} (ha : H a = some (.dict l)) (hb : H b = some (.dict l')) (hlen : l.length = l'.length)
    (hd : ∀ p ∈ l, ∃ d, dat p.2 = some d ∧ SeqAt.shaped d = true ∧ ∃ b d', valA l' p.1 = some b ∧ dat b = some d' ∧ SeqAt.shaped d' = true ∧ PyData.eqv d d' = true) (q : Q (.bool false) am H) : W2 c (k + 7) rest env RV (.ref a) (.ref b) (compareOp .NotEq) am H Q := fun A s E v u o ok S r r' => by
  subst r; subst r'
  refine hide fun P' hP' => ?_
  obtain ⟨_, _, m, ka, D, ra⟩ := S.objs _ _ ha
  refine hP' ?_
  refine hide fun P' hP' => ?_
  obtain ⟨_, _, m', kb, D', rb⟩ := S.objs _ _ hb
  refine hP' ?_
  refine W.keq_ne (r := true) m m' D D' (by have := ok.eqroom; lia) (fun _ => hits_of ok.eqroom1 ra rb hd) ?_
  have e : (ka.length == kb.length) = true := by rw [ra.len, rb.len, hlen]; simp
  rw [e]
  exact Post.here (R := RV) (a := .bool false) (by simp [RV, VR]) S q
theorem W_eq_dicts {a b : Addr} {l l' : List (Str × AV)} {Q : AV → AEnv → AH → Prop} (ha : H a = some (.dict l)) (hb : H b = some (.dict l')) (hlen : l.length = l'.length)
    (hd : ∀ p ∈ l, ∃ d, dat p.2 = some d ∧ SeqAt.shaped d = true ∧ ∃ b d', valA l' p.1 = some b ∧ dat b = some d' ∧ SeqAt.shaped d' = true ∧ PyData.eqv d d' = true) (q : Q (.bool true) am H) : W2 c (k + 7) rest env RV (.ref a) (.ref b) (compareOp .Eq) am H Q := fun A s E v u o ok S r r' => by
  subst r; subst r'
  refine hide fun P' hP' => ?_
  obtain ⟨_, _, m, ka, D, ra⟩ := S.objs _ _ ha
  refine hP' ?_
  refine hide fun P' hP' => ?_
  obtain ⟨_, _, m', kb, D', rb⟩ := S.objs _ _ hb
  refine hP' ?_
  refine W.keq_eq (r := true) m m' D D' (by have := ok.eqroom; lia) (fun _ => hits_of ok.eqroom1 ra rb hd) ?_
  have e : (ka.length == kb.length) = true := by rw [ra.len, rb.len, hlen]; simp
  rw [e]
  exact Post.here (R := RV) (a := .bool true) (by simp [RV, VR]) S q
end
noncomputable def bindLA (kindOf : Str → Option NameKind) : List (Str × AV) → AEnv → AEnv
  | [], m => m
  | (n, v) :: r, m => bindLA kindOf r (if kindOf n = some .local then fun y => if y = n then some v else m y else m)
noncomputable def bindCA (kindOf : Str → Option NameKind) : List (Str × AV) → AEnv → AEnv
  | [], m => m
  | (n, v) :: r, m => bindCA kindOf r (if kindOf n = some .local then m else fun y => if y = n then some v else m y)
theorem MapR.put {h : Heap} {mc : Str → Option Value} {am : AEnv} {n : Str} {v : Value} {a : AV} (r : MapR h mc am) (ra : VR h a v) : MapR h (fun y => if y = n then some v else mc y) (fun y => if y = n then some a else am y) := by
  intro y b e
  dsimp only at e ⊢
  by_cases z : y = n
  · rw [if_pos z] at e; cases e; exact ⟨v, if_pos z, ra⟩
  · rw [if_neg z] at e
    obtain ⟨u, e', ru⟩ := r y b e
    exact ⟨u, (if_neg z).trans e', ru⟩
theorem bindL_R {h : Heap} {kindOf : Str → Option NameKind} {l : List (Str × AV)} {b : List (Str × Value)} (r : All2 (PairR h) l b) : ∀ {mc : Str → Option Value} {am : AEnv}, MapR h mc am → MapR h (bindL kindOf b mc) (bindLA kindOf l am) := by
  induction r with
  | nil => intro mc am m; exact m
  | @cons p q l r pq _ ih =>
    intro mc am m
    obtain ⟨p1, p2⟩ := p; obtain ⟨q1, q2⟩ := q
    obtain ⟨e1, e2⟩ := pq
    dsimp only at e1 e2; subst e1
    refine ih ?_
    by_cases z : kindOf p1 = some .local
    · rw [if_pos z, if_pos z]; exact m.put e2
    · rw [if_neg z, if_neg z]; exact m
noncomputable def cellR (h : Heap) : Option Value → Option AV → Prop
  | none, none => True
  | some v, some a => VR h a v
  | _, _ => False
theorem bindC_R {h : Heap} {kindOf : Str → Option NameKind} {l : List (Str × AV)} {b : List (Str × Value)} (r : All2 (PairR h) l b) : ∀ {mc : Str → Option Value} {am : AEnv}, (∀ y, cellR h (mc y) (am y)) → ∀ y, cellR h (bindC kindOf b mc y) (bindCA kindOf l am y) := by
  induction r with
  | nil => intro mc am m; exact m
  | @cons p q l r pq _ ih =>
    intro mc am m
    obtain ⟨p1, p2⟩ := p; obtain ⟨q1, q2⟩ := q
    obtain ⟨e1, e2⟩ := pq
    dsimp only at e1 e2; subst e1
    refine ih fun y => ?_
    by_cases z : kindOf p1 = some .local
    · rw [if_pos z, if_pos z]; exact m y
    · rw [if_neg z, if_neg z]
      by_cases w : y = p1
      · rw [if_pos w, if_pos w]; exact e2
      · rw [if_neg w, if_neg w]; exact m y
noncomputable def kOfS (scope : Scope) : Str → Option NameKind := fun y => scope.names.lookup y
/-- the cells of a frame -/
noncomputable def cellsH (H : AH) (cm : AEnv) : List (Str × Addr) → AH
  | [] => H
  | p :: r => upd (cellsH H cm r) p.2 (.cell (cm p.1))
theorem cellsH_none {H : AH} {cm : AEnv} {b : Addr} : ∀ {cs : List (Str × Addr)}, H b = none → (∀ p ∈ cs, p.2 ≠ b) → cellsH H cm cs b = none
  | [], e, _ => e
  | p :: r, e, h => by
    show upd _ _ _ b = none
    rw [upd_ne (h p (.head _)).symm]
    exact cellsH_none e fun q m => h q (.tail _ m)
section
variable {c : Cfg} {k : Nat} {H : AH} {as as' : List AV} {Q : AV → AH → Prop}
theorem Cl_fnC {fa : Addr} {name qual : Str} {params : Arguments} {body : List Stmt} {scope : Scope} {dV kV doc pm cdv ct oc : Value} {an od : Option Addr} {osl : Array (Option Value)} (xs : List Str)
    (ho : ∀ P, (KK P).lookup fa = some ⟨oc, od, .func (fnOf name qual params body scope dV kV doc pm an cdv ct), osl⟩) (hcd : ∀ P, codeIn (KK P) cdv qual = true)
    (hb : ∀ vs, vs.length = as.length → bindArgs (fnOf name qual params body scope dV kV doc pm an cdv ct) ⟨vs, []⟩ = pure (xs.zip vs))
    (hkind : ∀ n, ∀ x ∈ xs, scope.names.lookup x = some .local ∨ (scope.names.lookup x = some .cell ∧ ((cellsFrom n scope.names []).lookup x).isSome = true)) (hnd : ∀ n, ((cellsFrom n scope.names []).map (·.1)).Nodup)
    (w : ∀ L fs, (∀ p ∈ cellsFrom (L + 1) scope.names [], H p.2 = none) → W c k fs (envOfC qual scope L fa cdv) RF (execs body (envOfC qual scope L fa cdv)) (bindLA (kOfS scope) (xs.zip as) fun _ => none)
      (cellsH H (bindCA (kOfS scope) (xs.zip as) fun _ => none) (cellsFrom (L + 1) scope.names [])) fun f _ H' => Q f.out H')
    (hco : scope.isCoroutine = false := by rfl) (hgen : scope.isGenerator = false := by rfl) (hk : scope.kind = .function := by rfl) : Cl c (k + 1) (.ref fa) as H Q := by
  intro A fs s vs n o a S r
  have B := hb vs r.length
  refine codeAny_call_function (fd := fnOf name qual params body scope dV kV doc pm an cdv ct) (body := body) a.room (S.K o _ _ (ho _)) rfl hco hgen rfl (codeRec_of (S.K o) (hcd _)) ?_
  rw [B]
  refine wpAny_pure (wpAny_newFunctionEnv_cells hk (fun x m => hkind _ x.1 (List.of_mem_zip m).1) fun env' he s' x => ?_)
  subst he
  obtain ⟨h₁, tk, rfl, kk⟩ := x.done
  have kk : Keeps s.heap h₁ := kk
  refine ⟨((S.T o).nolimit).keeps kk, codeAny_func ?_⟩
  have hl : s.heap.get? s.heap.objs.size = none := Heap.get?_none_of_le (Nat.le_refl _)
  have rz := mapR_zip (y := qual) (xs := xs) r
  have cnew : ∀ p ∈ cellsFrom (s.heap.objs.size + 1) scope.names [], s.heap.get? p.2 = none := fun p m => Heap.get?_none_of_le (Nat.le_of_lt (x.above p.1 p.2 m))
  have S₁ : St c (⟨envOfC qual scope s.heap.objs.size fa cdv, bindLA (kOfS scope) (xs.zip as) fun _ => none⟩ :: fs) H h₁ := by
    refine S.enter n kk hl (Nat.le_refl _) hk ⟨_, x.toInCall.ns, ?_⟩
    exact bindL_R (rz.mono fun _ _ z => z.mono kk.tup) .none
  have cr : ∀ y, cellR h₁ (bindC (kOfS scope) (xs.zip vs) (fun _ => none) y) (bindCA (kOfS scope) (xs.zip as) (fun _ => none) y) := bindC_R (rz.mono fun _ _ z => z.mono kk.tup) fun _ => trivial
  have S₂ : ∀ cs : List (Str × Addr), (∀ p ∈ cs, p ∈ cellsFrom (s.heap.objs.size + 1) scope.names []) → St c (⟨envOfC qual scope s.heap.objs.size fa cdv, bindLA (kOfS scope) (xs.zip as) fun _ => none⟩ :: fs) (cellsH H (bindCA (kOfS scope) (xs.zip as) fun _ => none) cs) h₁ := by
    intro cs
    induction cs with
    | nil => intro _; exact S₁
    | cons p cs ih =>
      intro sub
      have m := sub p (.head _)
      refine (ih fun q m => sub q (.tail _ m)).restore (own := some (p.2, .cell (bindCA (kOfS scope) (xs.zip as) (fun _ => none) p.1))) fun p' e => ?_
      cases e
      have lk : (cellsFrom (s.heap.objs.size + 1) scope.names []).lookup p.1 = some p.2 := lookup_of_mem_nodup (hnd _) m
      have ic := x.cell p.1 p.2 lk
      have out := S.outside (cnew p m)
      refine ⟨?_, out.2.2, fun f mf => ?_⟩
      · have cy := cr p.1
        show ObjR c h₁ p.2 (.cell _)
        revert cy
        generalize bindCA (kOfS scope) (xs.zip as) (fun _ => none) p.1 = oa
        intro cy
        have ic' : h₁.IsCell p.2 (bindC (kOfS scope) (xs.zip vs) (fun _ => none) p.1) := ic
        revert cy ic'
        generalize bindC (kOfS scope) (xs.zip vs) (fun _ => none) p.1 = ov
        intro cy ic'
        cases ov <;> cases oa <;> first | exact ic' | exact cy.elim | exact ⟨_, ic', cy⟩
      · rcases List.mem_cons.mp mf with rfl | mf
        · exact Nat.ne_of_lt (x.above p.1 p.2 m)
        · exact out.2.1 f.env (List.mem_map.mpr ⟨f, mf, rfl⟩)
  refine noE ((w s.heap.objs.size fs fun p m => (S.outside (cnew p m)).1).step o (a.deeper rfl) (S₂ _ fun _ m => m) fun fl f am' H' h' tk' rf y S' q => ?_)
  refine ⟨_, rfl, f.out, H', h', tk', rfl, ?_, ⟨fun b items t => y.tup b items (kk.tup b items t), fun b ob e1 e2 ef => ?_⟩, S'.leave, q⟩
  · cases fl <;> cases f <;> first | exact rf | exact rf.elim | (simp only [AF.out, VR])
  · have eqc : ∀ cs : List (Str × Addr), (∀ p ∈ cs, p.2 ≠ b) → cellsH H (bindCA (kOfS scope) (xs.zip as) fun _ => none) cs b = H b := by
      intro cs
      induction cs with
      | nil => intro _; rfl
      | cons p r ih => intro h; show upd _ _ _ b = _; rw [upd_ne (h p (.head _)).symm]; exact ih fun q m => h q (.tail _ m)
    have e3 := eqc (cellsFrom (s.heap.objs.size + 1) scope.names []) fun p m z => by have := cnew p m; rw [z, e1] at this; cases this
    obtain ⟨z1, z2⟩ := y.keep b ob (kk b ob e1) (e2.of_eq e3) fun e' m' => by
      rcases List.mem_cons.mp m' with rfl | m'
      · intro z; rw [← z] at e1; rw [show (envOfC qual scope s.heap.objs.size fa cdv).locals = s.heap.objs.size from rfl, hl] at e1; cases e1
      · exact ef e' m'
    exact ⟨z1, z2.trans e3⟩
end
noncomputable abbrev JF := List AV → Option (Addr × AO) → Nat → AEnv → AH → Prop
noncomputable abbrev JC := AEnv → AH → Prop
noncomputable abbrev JW := Nat → AEnv → AH → Prop
noncomputable abbrev JL := List AV → Option (Addr × AO) → Addr → Nat → List AV → AH → Prop
theorem len1 {α : Type} {l : List α} (h : l.length = 1) : ∃ a, l = [a] := by match l, h with | [a], _ => exact ⟨a, rfl⟩
theorem len2 {α : Type} {l : List α} (h : l.length = 2) : ∃ a b, l = [a, b] := by match l, h with | [a, b], _ => exact ⟨a, b, rfl⟩
theorem len3 {α : Type} {l : List α} (h : l.length = 3) : ∃ a b d, l = [a, b, d] := by match l, h with | [a, b, d], _ => exact ⟨a, b, d, rfl⟩
theorem lenS {α : Type} {n : Nat} {l : List α} (h : l.length = n + 1) : ∃ a r, l = a :: r ∧ r.length = n := by
  cases l with
  | nil => cases h
  | cons a r => exact ⟨a, r, rfl, Nat.succ.inj h⟩
theorem len4 {α : Type} {l : List α} (h : l.length = 4) : ∃ a b d e, l = [a, b, d, e] := by
  obtain ⟨a, r, rfl, h'⟩ := lenS h
  obtain ⟨b, d, e, rfl⟩ := len3 h'
  exact ⟨a, b, d, e, rfl⟩
theorem len5 {α : Type} {l : List α} (h : l.length = 5) : ∃ a b d e f, l = [a, b, d, e, f] := by
  obtain ⟨a, r, rfl, h'⟩ := lenS h
  obtain ⟨b, d, e, f, rfl⟩ := len4 h'
  exact ⟨a, b, d, e, f, rfl⟩
theorem get2 {α : Type} {a b x : α} {i : Nat} (h : [a, b][i]? = some x) : x = a ∨ x = b := by
  have := List.mem_of_getElem? h
  simpa using this
theorem get4 {α : Type} {a b d e x : α} {i : Nat} (h : [a, b, d, e][i]? = some x) : x = a ∨ x = b ∨ x = d ∨ x = e := by
  have := List.mem_of_getElem? h
  simpa using this
theorem upd_self {H : AH} {a : Addr} {o : AO} (e : H a = some o) : upd H a o = H := by
  funext b; by_cases z : b = a
  · rw [z, upd_same, e]
  · rw [upd_ne z]
theorem upd_upd {H : AH} {d : Addr} {a b : AO} : upd (upd H d a) d b = upd H d b := by
  funext y; by_cases z : y = d
  · rw [z, upd_same, upd_same]
  · rw [upd_ne z, upd_ne z, upd_ne z]
theorem upd_over {H : AH} {d x : Addr} {a b i : AO} : upd (upd (upd H d a) x i) d b = upd (upd H x i) d b := by
  funext y; by_cases z : y = d
  · rw [z, upd_same, upd_same]
  · rw [upd_ne z, upd_ne z]
    by_cases w : y = x
    · rw [w, upd_same, upd_same]
    · rw [upd_ne w, upd_ne w, upd_ne z]
/-- H' has all that H has -/
noncomputable def Sub (H H' : AH) : Prop := ∀ a o, H a = some o → H' a = some o
theorem Sub.refl (H : AH) : Sub H H := fun _ _ e => e
theorem Sub.trans {H H' H'' : AH} (x : Sub H H') (y : Sub H' H'') : Sub H H'' := fun a o e => y a o (x a o e)
theorem Sub.upd {H : AH} {a : Addr} {o : AO} (n : H a = none) : Sub H (upd H a o) := fun b ob e => upd_old n e
theorem Sub.add {H H' : AH} (x : Sub H H') {a : Addr} {o : AO} (n : H' a = none) : Sub H (Mine.upd H' a o) := x.trans (Sub.upd n)
section
variable {c : Cfg} {k : Nat} {rest : List Frm} {env : Env} {α β : Type} {R : Heap → β → α → Prop} {am : AEnv} {H : AH} {h : Heap}
theorem W_hide {x : Sem β} {Q : α → AEnv → AH → Prop} (w : ∀ Q' : α → AEnv → AH → Prop, (∀ a am H, Q a am H → Q' a am H) → W c k rest env R x am H Q') : W c k rest env R x am H Q := w Q fun _ _ _ h => h
theorem Then_next {r : List Stmt} {Q : AF → AEnv → AH → Prop} (w : W c k rest env RF (execs r env) am H Q) : Then c k rest env r Q .next am H := w
theorem Then_ret {r : List Stmt} {a : AV} {Q : AF → AEnv → AH → Prop} (q : Q (.ret a) am H) : Then c k rest env r Q (.ret a) am H := q
theorem LoopQ_ret {J : AEnv → AH → Prop} {a : AV} {Q : AF → AEnv → AH → Prop} (q : Q (.ret a) am H) : LoopQ J Q (.ret a) am H := q
theorem S_Assign_Name {x pos' value pos} {Q : AF → AEnv → AH → Prop} (hl : env.kindOf x = some .local) (hs : swapsWith value (some (.Name x pos')) pos.line env = pure false) (w : W c k rest env RV (eval value env) am H fun a am H => Q .next (put am x a) H) :
    W c k rest env RF (exec (.Assign [.Name x pos'] value pos) env) am H Q := W_Assign_Name w hl hs
theorem S_Expr {e pos} {Q : AF → AEnv → AH → Prop} (hi : interactive env = false) (hs : swapsWith e none pos.line env = pure false) (w : W c k rest env RV (eval e env) am H fun _ am H => Q .next am H) : W c k rest env RF (exec (.Expr e pos) env) am H Q := W_Expr w hi hs
theorem S_Assign_Attribute {ob attr pos' value pos} {Q : AF → AEnv → AH → Prop} (hs : swapsWith value (some (.Attribute ob attr pos')) pos.line env = pure false)
    (w : W c k rest env RV (eval value env) am H fun a am H => W c k rest env RV (eval ob env) am H fun b am H => W2 c k rest env RU a b (fun v o => setAttr o attr v) am H fun _ am H => Q .next am H) :
    W c k rest env RF (exec (.Assign [.Attribute ob attr pos'] value pos) env) am H Q := W_Assign_Attribute w hs
theorem S_Assign_Subscript {ob i pos' value pos} {Q : AF → AEnv → AH → Prop} (hs : swapsWith value (some (.Subscript ob i pos')) pos.line env = pure false)
    (w : W c k rest env RV (eval value env) am H fun a am H => W c k rest env RV (eval ob env) am H fun b am H => W c k rest env RV (eval i env) am H fun d am H => W3 c k rest env RU a b d (fun v o i => setItem o i v) am H fun _ am H => Q .next am H) :
    W c k rest env RF (exec (.Assign [.Subscript ob i pos'] value pos) env) am H Q := W_Assign_Subscript w hs
theorem S_local {x pos a} {Q : AV → AEnv → AH → Prop} (hl : env.kindOf x = some .local) (hd : (x == ("__debug__" : Str)) = false) (hx : am x = some a) (q : Q a am H) : W c k rest env RV (eval (.Name x pos) env) am H Q := W_local hx q hl hd
theorem S_Attribute {value : Expr} {attr : Str} {pos : Pos} {Q : AV → AEnv → AH → Prop}
    (he : eval (.Attribute value attr pos) env = (do
      let o ← eval value env
      standAt pos.atName
      let r ← holding [o] (getAttr o attr true)
      letTemporaryGo value o r
      pure r)) (w : W c k rest env RV (eval value env) am H fun a am H => W1 c k rest env RV a (fun v => getAttr v attr true) am H Q) :
    W c k rest env RV (eval (.Attribute value attr pos) env) am H Q := W_Attribute w he
theorem S_Compare {l op r pos} {Q : AV → AEnv → AH → Prop} (hm : behindInMarks op r = false)
    (w : W c k rest env RV (eval l env) am H fun a am H => W c k rest env RV (eval r env) am H fun b am H => W2 c k rest env RV a b (compareOp op) am H Q) : W c k rest env RV (eval (.Compare l [op] [r] pos) env) am H Q := W_Compare w hm
theorem S_isTrue_Compare {l op r pos whole} {Q : Bool → AEnv → AH → Prop} (hm : behindInMarks op r = false)
    (w : W c k rest env RV (eval l env) am H fun a am H => W c k rest env RV (eval r env) am H fun b am H => W2 c k rest env RV a b (compareOp op) am H fun d am H => W1 c k rest env RB d truthy am H Q) :
    W c k rest env RB (isTrue (.Compare l [op] [r] pos) env whole) am H Q := W_isTrue_Compare w hm
theorem S_isTrue_Name {x pos} {whole : Sem Value} {Q : Bool → AEnv → AH → Prop} (he : isTrue (.Name x pos) env whole = (do let v ← whole; standAt (Expr.Name x pos).pos; holding [v] (truthy v)))
    (w : W c k rest env RV whole am H fun a am H => W1 c k rest env RB a truthy am H Q) : W c k rest env RB (isTrue (.Name x pos) env whole) am H Q := W_isTrue_value w he
theorem S_isTrue_Subscript {x y pos} {whole : Sem Value} {Q : Bool → AEnv → AH → Prop} (he : isTrue (.Subscript x y pos) env whole = (do let v ← whole; standAt (Expr.Subscript x y pos).pos; holding [v] (truthy v)))
    (w : W c k rest env RV whole am H fun a am H => W1 c k rest env RB a truthy am H Q) : W c k rest env RB (isTrue (.Subscript x y pos) env whole) am H Q := W_isTrue_value w he
theorem S_isTrue_Attribute {x y pos} {whole : Sem Value} {Q : Bool → AEnv → AH → Prop} (he : isTrue (.Attribute x y pos) env whole = (do let v ← whole; standAt (Expr.Attribute x y pos).pos; holding [v] (truthy v)))
    (w : W c k rest env RV whole am H fun a am H => W1 c k rest env RB a truthy am H Q) : W c k rest env RB (isTrue (.Attribute x y pos) env whole) am H Q := W_isTrue_value w he
theorem S_isTrue_Call {x a b pos} {whole : Sem Value} {Q : Bool → AEnv → AH → Prop} (he : isTrue (.Call x a b pos) env whole = (do let v ← whole; standAt (Expr.Call x a b pos).pos; holding [v] (truthy v)))
    (w : W c k rest env RV whole am H fun a am H => W1 c k rest env RB a truthy am H Q) : W c k rest env RB (isTrue (.Call x a b pos) env whole) am H Q := W_isTrue_value w he
theorem S_items_cons {pos : Pos} {e : Expr} {r : List Expr} {Q : List AV → AEnv → AH → Prop} (he : starEach (e :: r) env = (false, eval e env) :: starEach r env)
    (w : W c k rest env RV (eval e env) am H fun a am H => W c k rest env RL (spliced (backTo pos (starEach r env))) am H fun l am H => Q (a :: l) am H) : W c k rest env RL (spliced (backTo pos (starEach (e :: r) env))) am H Q := W_items_cons w he
theorem S_newTuple {as : List AV} {Q : AV → AEnv → AH → Prop} (hz : Nat.ble as.length 1000 = true) (q : Q (.tup as) am H) : Wn c k rest env RV as newTuple am H Q := W_newTuple q (Nat.le_trans (Nat.le_of_ble_eq_true hz) (by decide))
theorem S_item {as : List AV} {i : Int} {x : AV} {value slice : Expr} {Q : AV → AEnv → AH → Prop} (h0 : 0 ≤ i) (hhi : i < 2 ^ 63)
    (hs : ∀ t u, subscripted slice false (.ref t) (.int i u) = operate [.ref t, .int i u] (getItem (.ref t) (.int i u))) (hx : as[i.toNat]? = some x) (q : Q x am H) :
    W2 c k rest env RV (.tup as) (.int i) (subscriptTail value slice) am H Q := W_item hx q h0 hhi hs
theorem W1_ref {a : Addr} {f : Value → Sem β} {Q : α → AEnv → AH → Prop} (w : W c k rest env R (f (.ref a)) am H Q) : W1 c k rest env R (.ref a) f am H Q := fun A s E v o aa S r => by
  subst r; exact w A s E o aa S
/-- a call of a def or a class of the text, by its name -/
theorem S_CallDef {x : Str} {npos pos : Pos} {e : Expr} {r : List Expr} {fa : Addr} {Q : AV → AEnv → AH → Prop} (hg : env.globals = mainGlobals) (hx : env.kindOf x = some .globalImplicit) (hd : (x == ("__debug__" : Str)) = false)
    (he : starEach (e :: r) env = (false, eval e env) :: starEach r env) (hplain : (backTo pos (starEach r env)).any (·.1) = false)
    (hc : eval (.Call (.Name x npos) (e :: r) [] pos) env = (do callWith pos (← eval (.Name x npos) env) [] (backTo pos (starEach (e :: r) env)) (backToKw pos (keywordEach [] env))))
    (hn : ∀ P, nsIn (KK P) mainGlobals x = some (some (.ref fa))) (hk : ∀ P, keepIn (KK P) (.ref fa) = true)
    (w : W c k rest env RL (spliced (backTo pos (starEach (e :: r) env))) am H fun as am H => Cl c k (.ref fa) as H fun a H' => Q a am H') : W c k rest env RV (eval (.Call (.Name x npos) (e :: r) [] pos) env) am H Q :=
  W_Call (W_glob (a := .ref fa) hn (fun _ _ _ => by simp only [VR]) (W1_ref (W_callWith (fa := []) hk (fun _ => by simp only [VRs]) (w.mono fun as am H z => W_of_Cl z) he hplain)) hg hx hd) hc
theorem S_CallDef0 {x : Str} {npos pos : Pos} {fa : Addr} {Q : AV → AEnv → AH → Prop} (hg : env.globals = mainGlobals) (hx : env.kindOf x = some .globalImplicit) (hd : (x == ("__debug__" : Str)) = false)
    (hc : eval (.Call (.Name x npos) [] [] pos) env = (do callWith pos (← eval (.Name x npos) env) [] (backTo pos (starEach [] env)) (backToKw pos (keywordEach [] env))))
    (hn : ∀ P, nsIn (KK P) mainGlobals x = some (some (.ref fa))) (hk : ∀ P, keepIn (KK P) (.ref fa) = true)
    (w : Cl c k (.ref fa) [] H fun a H' => Q a am H') : W c k rest env RV (eval (.Call (.Name x npos) [] [] pos) env) am H Q :=
  W_Call (W_glob (a := .ref fa) hn (fun _ _ _ => by simp only [VR]) (W1_ref (W_callWith0 (fa := []) hk (fun _ => by simp only [VRs]) (W_of_Cl w))) hg hx hd) hc
theorem S_MethodCall {o : Expr} {name : Str} {apos pos : Pos} {args : List Expr} {pl : Sem Bool} {Q : AV → AEnv → AH → Prop}
    (he : eval (.Call (.Attribute o name apos) args [] pos) env = (do
      let ov ← eval o env
      standAt apos.atName
      let (f, first) ← holding [ov] (getMethod ov name pl)
      callWith pos f first (backTo pos (starEach args env)) []))
    (w : W c k rest env RV (eval o env) am H fun a am H => WM c k rest env a name args pos am H Q) : W c k rest env RV (eval (.Call (.Attribute o name apos) args [] pos) env) am H Q := W_MethodCall w he
/-- a method of the text, with arguments -/
theorem WM_def {x C dx f : Addr} {fs : List (Str × AV)} {name : Str} {e : Expr} {r : List Expr} {pos : Pos} {Q : AV → AEnv → AH → Prop} (hx : H x = some (.inst C dx)) (hd : H dx = some (.idict fs)) (hn : valA fs name = none) (ok : ∀ P, methOk (KK P) C f name = true) (hk : ∀ P, keepIn (KK P) (.ref f) = true)
    (w : W c k rest env RL (spliced (backTo pos (starEach (e :: r) env))) am H fun as am H => Cl c k (.ref f) (.ref x :: as) H fun a H' => Q a am H')
    (he : starEach (e :: r) env = (false, eval e env) :: starEach r env := by rfl) (hplain : (backTo pos (starEach r env)).any (·.1) = false := by rfl) : WM c k rest env (.ref x) name (e :: r) pos am H Q :=
  WM_inst hx hd hn ok (W_callWith (fa := [.ref x]) hk (fun _ => by exact ⟨_, _, rfl, rfl, rfl⟩) (w.mono fun as am H z => W_of_Cl z) he hplain)
theorem WM_def0 {x C dx f : Addr} {fs : List (Str × AV)} {name : Str} {pos : Pos} {Q : AV → AEnv → AH → Prop} (hx : H x = some (.inst C dx)) (hd : H dx = some (.idict fs)) (hn : valA fs name = none) (ok : ∀ P, methOk (KK P) C f name = true) (hk : ∀ P, keepIn (KK P) (.ref f) = true)
    (w : Cl c k (.ref f) [.ref x] H fun a H' => Q a am H') : WM c k rest env (.ref x) name [] pos am H Q :=
  WM_inst hx hd hn ok (W_callWith0 (fa := [.ref x]) hk (fun _ => by exact ⟨_, _, rfl, rfl, rfl⟩) (W_of_Cl w))
/-- l.append(x), and the like -/
theorem WM_listM {l : Addr} {as : List AV} {id : String} {name : Str} {e : Expr} {r : List Expr} {pos : Pos} {Q : AV → AEnv → AH → Prop} (hl : H l = some (.list as)) (slot : Slot "list" name id) (hty : typeOf (.builtin id) = pure (.type "method_descriptor"))
    (w : W c k rest env RL (spliced (backTo pos (starEach (e :: r) env))) am H fun as am H => Wn c k rest env RV (.ref l :: as) (fun vs => call (.builtin id) vs) am H Q)
    (he : starEach (e :: r) env = (false, eval e env) :: starEach r env := by rfl) (hplain : (backTo pos (starEach r env)).any (·.1) = false := by rfl) : WM c k rest env (.ref l) name (e :: r) pos am H Q :=
  WM_list hl slot hty (W_callMeth (fa := [.ref l]) (fun _ => by exact ⟨_, _, rfl, rfl, rfl⟩) w he hplain)
/-- a call of a built-in function, by its name -/
theorem S_CallB {x : Str} {npos pos : Pos} {e : Expr} {r : List Expr} {id : String} {Q : AV → AEnv → AH → Prop} (hg : env.globals = mainGlobals) (hb : env.builtins = builtinsNs) (hx : env.kindOf x = some .globalImplicit) (hd : (x == ("__debug__" : Str)) = false)
    (he : starEach (e :: r) env = (false, eval e env) :: starEach r env) (hplain : (backTo pos (starEach r env)).any (·.1) = false)
    (hc : eval (.Call (.Name x npos) (e :: r) [] pos) env = (do callWith pos (← eval (.Name x npos) env) [] (backTo pos (starEach (e :: r) env)) (backToKw pos (keywordEach [] env))))
    (hn : ∀ P, nsIn (KK P) mainGlobals x = some none) (hv : bootBuiltins x = some (.builtin id)) (hne : x ≠ "__name__")
    (w : W c k rest env RL (spliced (backTo pos (starEach (e :: r) env))) am H fun as am H => Wn c k rest env RV as (fun vs => call (.builtin id) vs) am H Q) : W c k rest env RV (eval (.Call (.Name x npos) (e :: r) [] pos) env) am H Q :=
  W_Call (W_boot hn hv (W_callBuiltin w he hplain) hne hg hb hx hd) hc
theorem S_CallT {x : Str} {npos pos : Pos} {e : Expr} {r : List Expr} {T : String} {Q : AV → AEnv → AH → Prop} (hg : env.globals = mainGlobals) (hb : env.builtins = builtinsNs) (hx : env.kindOf x = some .globalImplicit) (hd : (x == ("__debug__" : Str)) = false)
    (he : starEach (e :: r) env = (false, eval e env) :: starEach r env) (hplain : (backTo pos (starEach r env)).any (·.1) = false)
    (hc : eval (.Call (.Name x npos) (e :: r) [] pos) env = (do callWith pos (← eval (.Name x npos) env) [] (backTo pos (starEach (e :: r) env)) (backToKw pos (keywordEach [] env))))
    (hn : ∀ P, nsIn (KK P) mainGlobals x = some none) (hv : bootBuiltins x = some (.type T)) (hne : x ≠ "__name__")
    (w : W c k rest env RL (spliced (backTo pos (starEach (e :: r) env))) am H fun as am H => Wn c k rest env RV as (fun vs => call (.type T) vs) am H Q) : W c k rest env RV (eval (.Call (.Name x npos) (e :: r) [] pos) env) am H Q :=
  W_Call (W_boot hn hv (W_callType w he hplain) hne hg hb hx hd) hc
end
theorem ifT {b : Bool} {X Y : Prop} (h : b = true) (x : X) : if b then X else Y := by rw [if_pos h]; exact x
theorem ifF {b : Bool} {X Y : Prop} (h : b = false) (y : Y) : if b then X else Y := by rw [if_neg (by rw [h]; exact Bool.false_ne_true)]; exact y
/-- the plain law's words -/
noncomputable abbrev named (p : Str) : AV := .tup [.str "named", .str p]
structure Mth where
  ptr : Bool
  func : AV
  key : AV
inductive Fld where
  | plain (name : Str) (ty : AV)
  | emb (name : Str) (ptr : Bool) (path : Str)
noncomputable abbrev embTy (ptr : Bool) (p : Str) : AV := .tup [.str (if ptr then "ptr" else "named"), if ptr then named p else .str p]
theorem embTy_ptr {ptr : Bool} : decide ((if ptr then "ptr" else "named" : Str) = "ptr") = ptr := by cases ptr <;> decide
noncomputable abbrev Fld.name : Fld → Str
  | .plain n _ => n
  | .emb n _ _ => n
noncomputable abbrev Fld.ty : Fld → AV
  | .plain _ t => t
  | .emb _ ptr p => embTy ptr p
noncomputable abbrev Fld.isEmb : Fld → Bool
  | .plain _ _ => false
  | .emb _ _ _ => true
noncomputable abbrev Fld.av (f : Fld) : AV := .tup [.str f.name, f.ty, .bool f.isEmb]
structure Strct where
  fields : List Fld
  mths : List (Str × Mth)
noncomputable abbrev Mth.av (m : Mth) : AV := .tup [.bool m.ptr, m.func, m.key]
noncomputable def Strct.dict (s : Strct) : List (Str × AV) := s.mths.map fun m => (m.1, m.2.av)
noncomputable abbrev Mdl := Str → Option Strct
noncomputable abbrev under (s : Strct) : AV := .tup [.str "struct", .tup (s.fields.map Fld.av)]
inductive RowAt (H : AH) (r : Addr) (s : Strct) : Prop
  | mk (dx md : Addr) (pth pk : AV) (_ : H r = some (.inst 207 dx)) (_ : H dx = some (.idict [("path", pth), ("package", pk), ("underlying", under s), ("methods", .ref md)])) (_ : H md = some (.dict s.dict)) : RowAt H r s
inductive WorldAt (H : AH) (w : Addr) (M : Mdl) : Prop
  | mk (dx nd : Addr) (l F : List (Str × AV)) (_ : H w = some (.inst 250 dx)) (_ : H dx = some (.idict F)) (_ : valA F "named" = some (.ref nd)) (_ : valA F "base_of" = none) (_ : H nd = some (.dict l)) (_ : ∀ p s, M p = some s → ∃ r, valA l p = some (.ref r) ∧ RowAt H r s) : WorldAt H w M
theorem RowAt.sub {H H' : AH} (x : Sub H H') {r : Addr} {s : Strct} (z : RowAt H r s) : RowAt H' r s := by
  obtain ⟨dx, md, a, b, e1, e2, e3⟩ := z
  exact ⟨dx, md, a, b, x _ _ e1, x _ _ e2, x _ _ e3⟩
theorem WorldAt.sub {H H' : AH} (x : Sub H H') {w : Addr} {M : Mdl} (z : WorldAt H w M) : WorldAt H' w M := by
  obtain ⟨dx, nd, l, F, e1, e2, e3, e6, e4, e5⟩ := z
  refine ⟨dx, nd, l, F, x _ _ e1, x _ _ e2, e3, e6, x _ _ e4, fun p s z => ?_⟩
  obtain ⟨r, q, y⟩ := e5 p s z
  exact ⟨r, q, y.sub x⟩
theorem WorldAt.del {H : AH} {w : Addr} {M : Mdl} {hl : Addr} {as : List AV} (e : H hl = some (.list as)) : WorldAt H w M → WorldAt (del H hl) w M := fun ⟨dx, nd, l, F, e1, e2, e3, e6, e4, e5⟩ => by
  have k : ∀ {a o}, H a = some o → (∀ l, o ≠ .list l) → Mine.del H hl a = some o := fun {a o} z n => by
    rw [del_ne]; exact z
    rintro rfl; rw [e] at z; cases z; exact n _ rfl
  refine ⟨dx, nd, l, F, k e1 (by simp), k e2 (by simp), e3, e6, k e4 (by simp), fun p s z => ?_⟩
  obtain ⟨r, q, dx', md, a, b, f1, f2, f3⟩ := e5 p s z
  exact ⟨r, q, dx', md, a, b, k f1 (by simp), k f2 (by simp), k f3 (by simp)⟩
/-- a type that was reached: path, steps, twice -/
structure Rch where
  path : Str
  steps : List AV
  tw : Bool
noncomputable def Rch.fs (r : Rch) : List (Str × AV) := [("told", named r.path), ("steps", .tup r.steps), ("is_twice", .bool r.tw)]
noncomputable def ReachedAt (H : AH) (a : Addr) (r : Rch) : Prop := ∃ dx, H a = some (.inst 84 dx) ∧ H dx = some (.idict r.fs)
/-- a new one, since H₀ -/
noncomputable def NR (H₀ H : AH) (p : Addr × Addr) (r : Rch) : Prop := H p.1 = some (.inst 84 p.2) ∧ H p.2 = some (.idict r.fs) ∧ H₀ p.1 = none ∧ H₀ p.2 = none
theorem NR.sub {H₀ H H' : AH} (x : Sub H H') {p : Addr × Addr} {r : Rch} : NR H₀ H p r → NR H₀ H' p r := fun ⟨a, b, d, e⟩ => ⟨x _ _ a, x _ _ b, d, e⟩
/-- the types that are embedded in one -/
noncomputable def embFrom (r : Rch) : List Fld → Nat → List Rch
  | [], _ => []
  | .plain _ _ :: l, i => embFrom r l (i + 1)
  | .emb _ ptr p :: l, i => ⟨p, r.steps ++ [.tup [.int i, .bool ptr]], r.tw⟩ :: embFrom r l (i + 1)
theorem embFrom_append {r : Rch} : ∀ {l l' : List Fld} {i : Nat}, embFrom r (l ++ l') i = embFrom r l i ++ embFrom r l' (i + l.length)
  | [], l', i => by simp [embFrom]
  | .plain _ _ :: l, l', i => by
    simp only [List.cons_append, embFrom, List.length_cons]
    rw [embFrom_append, show i + 1 + l.length = i + (l.length + 1) by lia]
  | .emb _ ptr p :: l, l', i => by
    simp only [List.cons_append, embFrom, List.length_cons]
    rw [embFrom_append, show i + 1 + l.length = i + (l.length + 1) by lia]
theorem embFrom_le {r : Rch} : ∀ {l : List Fld} {i : Nat}, (embFrom r l i).length ≤ l.length
  | [], _ => Nat.le_refl _
  | .plain _ _ :: l, i => by simp only [embFrom, List.length_cons]; exact Nat.le_succ_of_le embFrom_le
  | .emb _ _ _ :: l, i => by simp only [embFrom, List.length_cons]; exact Nat.succ_le_succ embFrom_le
theorem enumA_inv {l : List AV} {i : Nat} {a : AV} (e : (enumA l 0)[i]? = some a) : ∃ b, l[i]? = some b ∧ a = .tup [.int i, b] := by
  have hi : i < l.length := by have := (List.getElem?_eq_some_iff.mp e).1; rwa [enumA_length] at this
  have := enumA_get (i := 0) (List.getElem?_eq_getElem hi)
  rw [e] at this
  exact ⟨_, List.getElem?_eq_getElem hi, by simpa using Option.some.inj this⟩
theorem take_next {α : Type} {l : List α} {i : Nat} {x : α} (e : l[i]? = some x) : l.take (i + 1) = l.take i ++ [x] := by rw [List.take_add_one, e]; rfl
theorem embTy_wo {ptr : Bool} {p : Str} : (if decide ((if ptr = true then Str.ofString "ptr" else Str.ofString "named") = Str.ofString "ptr") = true then (if ptr = true then named p else AV.str p) else AV.tup [AV.str (if ptr = true then Str.ofString "ptr" else Str.ofString "named"), if ptr = true then named p else AV.str p]) = named p := by
  cases ptr <;> rfl
theorem Sub.over {H H' : AH} (x : Sub H H') {a : Addr} {o : AO} (n : H a = none) : Sub H (Mine.upd H' a o) := fun b ob e => by
  rw [upd_ne]; exact x b ob e
  rintro rfl; rw [n] at e; cases e
theorem Sub.none {H H' : AH} (x : Sub H H') {a : Addr} (n : H' a = none) : H a = none := by
  cases e : H a with
  | none => rfl
  | some o => have := x a o e; rw [n] at this; cases this
theorem NR.over {H₀ H : AH} {p : Addr × Addr} {r : Rch} {a : Addr} {as : List AV} {o : AO} (x : NR H₀ H p r) (e : H a = some (.list as)) : NR H₀ (upd H a o) p r := by
  obtain ⟨a1, a2, a3, a4⟩ := x
  refine ⟨?_, ?_, a3, a4⟩
  · rw [upd_ne]; exact a1
    rintro rfl; rw [e] at a1; cases a1
  · rw [upd_ne]; exact a2
    rintro rfl; rw [e] at a2; cases a2
theorem All2.memL {α β : Type} {R : α → β → Prop} {l : List α} {r : List β} (x : All2 R l r) {a : α} (m : a ∈ l) : ∃ b ∈ r, R a b := by
  induction x with
  | nil => cases m
  | cons p _ ih =>
    rcases List.mem_cons.mp m with rfl | m
    · exact ⟨_, .head _, p⟩
    · obtain ⟨b, mb, rb⟩ := ih m; exact ⟨b, .tail _ mb, rb⟩
theorem upd_none {H : AH} {a b : Addr} {o : AO} : upd H a o b = none ↔ b ≠ a ∧ H b = none := by
  constructor
  · intro e
    by_cases z : b = a
    · rw [z, upd_same] at e; cases e
    · rw [upd_ne z] at e; exact ⟨z, e⟩
  · rintro ⟨z, e⟩; rw [upd_ne z]; exact e
theorem ne1 {H : AH} {a b : Addr} {o : AO} (x : H a = none) (y : H b = some o) : a ≠ b := by rintro rfl; rw [x] at y; cases y
theorem ne2 {H : AH} {a b : Addr} {o : AO} (x : H a = none) (y : H b = some o) : b ≠ a := (ne1 x y).symm
end Mine
end
section
open PySem PySem.Calls
set_option maxRecDepth 100000
namespace Mine
section
variable {prog : Program} {w : PySem.World} {A : Around} {E : Value → Shared → Prop} {h : Heap} {g : Array GenState} {d : Drawn} {t : Nat} {os : OsState}
variable {nm q : Str} {C N : Addr} {bs bm : List Value} {hdct : Bool} {sn : List Str} {sub : List Value} {ab : Bool} {col : Option Bool} {dd : Option Addr} {k0 k1 k2 k3 k5 : Option Value} {B newId initId : String} {bmB : List Value}
noncomputable abbrev SameTypes (bmB bm : List Value) : Prop := ∀ X b, bmB.contains (.type X) = b → bm.contains (.type X) = b
theorem exc_check_new (F : ExcBaseFacts B newId initId bmB) (T : SameTypes bmB bm) {M : Model} {rest : List Value} {Q : Unit → Shared → Prop} (hC : h.get? C = some (excClassObj nm q C N bs bm hdct sn sub ab col dd k0 k1 k2 k3 k5 newId))
    (hq : Q () ⟨h, g, d, t, os⟩) : wpAny M A (checkBuiltinCall newId ⟨.ref C :: rest, []⟩) Q E ⟨h, g, d, t, os⟩ := by
  have hcont : (Value.ref C :: bm).contains (.type B) = true := by rw [List.contains_cons, T _ _ F.hasB, Bool.or_true]
  have hstar := F.noStar
  simp only [checkBuiltinCall, F.newKind, F.newSplit, F.newRow]
  repeat (first | refine wpAny_loadPart_at hC ?_ | (refine wpAny_isSubtype_exc hC ?_; rw [hcont]) | refine wpAny_staticBase_exc hC ?_ | refine wpAny_madeBy_exc hC ?_ | simp only [bne_self_eq_false, Bool.false_eq_true, if_false] | wp_step)
  exact hq
theorem exc_new {R : Result → Shared → Prop} (F : ExcBaseFacts B newId initId bmB) (T : SameTypes bmB bm) {rest : List Value} (hC : h.get? C = some (excClassObj nm q C N bs bm hdct sn sub ab col dd k0 k1 k2 k3 k5 newId))
    (hq : R (.ok (.ret (.ref (h.objs.size + 1)))) ⟨(h.push { cls := .type "tuple", data := .seq rest.toArray }).push
      { cls := .ref C, data := .fields #[.ref h.objs.size, .none, .none, .none, .bool false, .none] }, g, d, t, os⟩) (hrest : rest.length ≤ sizeLine) :
    codeAny (model prog w) A (.builtin newId ⟨.ref C :: rest, []⟩) R ⟨h, g, d, t, os⟩ := by
  have hends := F.ends
  have hcB : (Value.ref C :: bm).contains (.type B) = true := by rw [List.contains_cons, T _ _ F.hasB, Bool.or_true]
  have hcA : (Value.ref C :: bm).contains (.type "AttributeError") = false := by rw [List.contains_cons, T _ _ F.noAttr]; rfl
  have hcN : (Value.ref C :: bm).contains (.type "NameError") = false := by rw [List.contains_cons, T _ _ F.noName]; rfl
  refine codeAny_builtinAt F.entry ?_
  unfold Builtin.«BaseException.__new__»
  refine wpAt_bind ?_
  show wpAt _ _ _ (stack >>= _) _ _ _
  refine wpAt_bind (wpAt_stack fun p below => wpAt_of_wpAny ?_)
  wp_walk
  refine wpAt_of_wpAny ?_
  rw [F.owner]
  repeat (first | with_reducible refine wpAny_madeHere_exc F.canon hC ?_ | with_reducible refine wpAny_loadPart_at hC ?_ | (with_reducible refine wpAny_isSubtype_exc hC ?_; first | rw [hcB] | rw [hcA] | rw [hcN]) | wp_step)
  show R _ _
  rw [Heap.size_push]
  exact hq
theorem exc_type_call (F : ExcBaseFacts B newId initId bmB) (T : SameTypes bmB bm) {rest : List Value} {fI : Addr} {oI : Obj} {Q : Fin → Shared → Prop}
    (hC : h.get? C = some (excClassObj nm q C N bs bm hdct sn sub ab col dd k0 k1 k2 k3 k5 newId)) (hi : PySem.W.Looks (model prog w) h (typeLookup (.ref C) "__init__") (some (.ref fI)))
    (hfI : h.get? fI = some oI) (hfc : oI.cls = .type "function")
    (hq : ∀ h' e, Heap.MadeExcOf h h' e (.ref C) rest →
      wpAny (model prog w) A (call (.ref fI) (.ref e :: rest)) (fun r s' => r = .none ∧ Q (.done (.ret (.ref e))) s') E ⟨h', g, d, t, os⟩) (hrest : rest.length ≤ sizeLine) :
    wpAny (model prog w) A (Builtin.«type.__call__» ⟨.ref C :: rest, []⟩) Q E ⟨h, g, d, t, os⟩ := by
  repeat (first | with_reducible refine wpAny_loadPart_at hC ?_ | with_reducible refine wpAny_madeBy_exc hC ?_ | wp_step)
  refine codeAny_call_builtin_code (Code.quiet_builtin _ F.quiet) (exc_check_new F T hC ?_)
  refine exc_new F T hC ?_ hrest
  show wpAny _ _ _ _ _ _
  have hC₁ := Heap.get?_push_of_some { cls := .ref C, data := .fields #[.ref h.objs.size, .none, .none, .none, .bool false, .none] }
    (Heap.get?_push_of_some { cls := .type "tuple", data := .seq rest.toArray } hC)
  have hfI₁ := Heap.get?_push_of_some { cls := .ref C, data := .fields #[.ref h.objs.size, .none, .none, .none, .bool false, .none] }
    (Heap.get?_push_of_some { cls := .type "tuple", data := .seq rest.toArray } hfI)
  have hget : ((h.push { cls := .type "tuple", data := .seq rest.toArray }).push
      { cls := .ref C, data := .fields #[.ref h.objs.size, .none, .none, .none, .bool false, .none] }).get? (h.objs.size + 1) = some
      { cls := .ref C, data := .fields #[.ref h.objs.size, .none, .none, .none, .bool false, .none] } := by heap_get
  have hcC : (Value.ref C :: bm).contains (.ref C) = true := by simp
  unfold isInstance
  repeat (first | with_reducible refine wpAny_loadPart_at hget ?_ | (with_reducible refine wpAny_isSubtype_exc hC₁ ?_; rw [hcC]) | wp_step)
  show wpAny _ _ (typeLookup (.ref C) _) _ _ _
  refine hi _ _ _ _ (fun b o e => Heap.get?_push_of_some _ (Heap.get?_push_of_some _ e)) ?_
  refine wpAny_holding (wpAny_bind ?_)
  unfold bindSpecial
  refine wpAny_bind (wpAny_typeOf (T := "function") ⟨_, hfI₁, hfc⟩ ?_)
  rw [if_pos (by decide)]
  refine wpAny_pure (wpAny_bind (wpAny_mono (hq _ (h.objs.size + 1) ⟨fun b o hb => Heap.get?_push_of_some _ (Heap.get?_push_of_some _ hb), Heap.get?_none_of_le (Nat.le_succ _), h.objs.size, hget, Heap.get?_none_of_le (Nat.le_refl _), ?_⟩) (fun r s' hr => ?_) fun _ _ x => x))
  · exact Heap.get?_push_of_some _ (Heap.get?_push_at rfl rfl)
  · obtain ⟨rfl, hQ⟩ := hr
    wp_walk
    exact hQ
end
theorem dict_mapFields (f : Array Value → Array Value) (o : Obj) : (Obj.mapFields f o).dict = o.dict := by
  cases o with
  | mk a b d s => cases d <;> rfl
/-- the exception e, noted once at least: its class, its dict; fl: where it flies -/
inductive TrD (h B : Heap) (e : Addr) (oc : Value) (od : Option Addr) (fl : Value) : Prop
  | mk (oe : Obj) (vs : Array Value) (T : Addr) (oT : Obj) (ts : Array Value) (_ : h.get? e = some oe) (_ : oe.cls = oc ∧ oe.dict = od) (_ : oe.data = .fields vs) (_ : vs[1]? = some (.ref T)) (_ : B.get? T = none) (_ : T ≠ e) (_ : h.get? T = some oT) (_ : oT.data = .fields ts) (_ : ts[3]? = some fl) : TrD h B e oc od fl
inductive FlyD (B : Heap) (l : List Env) (e : Addr) (oc : Value) (od : Option Addr) (fl : Value) (h : Heap) : Prop
  | mk (_ : B.StaysIn h) (_ : B.get? e = none) (_ : h.FunFrames B l) (_ : TrD h B e oc od fl) : FlyD B l e oc od fl h
section
variable {M : Model} {A : Around} {E : Value → Shared → Prop} {s : Shared} {B : Heap} {env : Env} {outer : List Env} {L e : Addr} {oe : Obj} {vs : Array Value} {head : Value} {oc fl : Value} {od : Option Addr} {hadNext : Bool} {Q : Unit → Shared → Prop}
theorem entryD (hfr : A.frames = some (env :: outer)) (hl : s.heap.FunFrames B (env :: outer)) (hf : env.frame = some L)
    (he : s.heap.get? e = some oe) (hkb : B.StaysIn s.heap) (hen : B.get? e = none) (hd : oe.data = .fields vs) (hsz : 1 < vs.size)
    (h : ∀ h', FlyD B (env :: outer) e oe.cls oe.dict (rawInt L) h' → s.heap.UpToSlots h' → Q () { s with heap := h' }) :
    wpAny M A (do let a ← frameOf env; let pl ← entryPlaceOf L hadNext; let b ← EntryCells.newEntry head a .none (rawInt L) .none pl; setField (.ref e) 1 b) Q E s := by
  have hene : e ∉ (env :: outer).filterMap (·.frame) := fun hm => by
    obtain ⟨_, o, ho, hnf⟩ := hl.mem hm
    rw [he] at ho; injection ho with ho; subst ho; exact hnf vs hd
  refine wpAny_bind (wpAny_frameOf_fun hfr hl hf fun h₁ hs₁ => ?_)
  refine wpAny_bind (wpAny_entryPlaceOf fun pl hpl => ?_)
  unfold EntryCells.newEntry newFields
  refine wpAny_bind (wpAny_newObj_type ?_ (hpl.sizeOk5 _ _ _ _ _))
  have he₁ : h₁.get? e = some oe := (hs₁.2.1 e hene).trans he
  have kb₁ : B.StaysIn h₁ := fun b o hbo => (hs₁.2.1 b fun hm => by rw [(hl.mem hm).1] at hbo; cases hbo).trans (hkb b o hbo)
  have he₂ := Heap.get?_push_of_some (h := h₁) { cls := .type "traceback", dict := none, data := .fields ([head, .ref L, .none, rawInt L, .none] ++ (if pl.isEmpty then List.replicate 6 Value.none else pl)).toArray } he₁
  have hTe : h₁.objs.size ≠ e := Nat.ne_of_gt (Heap.lt_size he₁)
  have hT₂ := Heap.get?_push_size h₁ (o := { cls := .type "traceback", dict := none, data := .fields ([head, .ref L, .none, rawInt L, .none] ++ (if pl.isEmpty then List.replicate 6 Value.none else pl)).toArray }) rfl
  have hgrow : ∀ b o, h₁.get? b = some o → (h₁.push { cls := .type "traceback", dict := none, data := .fields ([head, .ref L, .none, rawInt L, .none] ++ (if pl.isEmpty then List.replicate 6 Value.none else pl)).toArray }).get? b = some o := fun b o e => Heap.get?_push_of_some _ e
  have htd : ∃ ts : Array Value, (Data.fields ([head, .ref L, .none, rawInt L, .none] ++ (if pl.isEmpty then List.replicate 6 Value.none else pl)).toArray) = .fields ts ∧ ts[3]? = some (rawInt L) := ⟨_, rfl, by simp⟩
  obtain ⟨ts, ets, h3⟩ := htd
  generalize h₁.push { cls := .type "traceback", dict := none, data := .fields ([head, .ref L, .none, rawInt L, .none] ++ (if pl.isEmpty then List.replicate 6 Value.none else pl)).toArray } = h₂ at he₂ hT₂ hgrow ⊢
  refine wpAny_setField he₂ hd hsz (h _ ?_ ?_)
  all_goals
    have hd₃ := Obj.data_mapFields hd (·.setIfInBounds 1 (Value.ref h₁.objs.size))
    have he₃ := Heap.get?_update_self (Obj.mapFields (·.setIfInBounds 1 (Value.ref h₁.objs.size))) he₂ (Obj.isFreed_of_fields hd₃)
    have keep : ∀ b o, b ≠ e → h₂.get? b = some o → (h₂.update e (Obj.mapFields (·.setIfInBounds 1 (Value.ref h₁.objs.size)))).get? b = some o := fun b o hbe hb => by rw [Heap.get?_update_other _ _ (Ne.symm hbe)]; exact hb
    have noRecord : ∀ b o, s.heap.get? b = some o → (∀ vs, o.data ≠ .fields vs) → b ≠ e := fun b o hb hnf q => by
      rw [q, he] at hb; injection hb with hb; subst hb; exact hnf vs hd
  · refine ⟨fun b o hbo => keep b o (fun q => by rw [q, hen] at hbo; cases hbo) (hgrow _ _ (kb₁ b o hbo)), hen, hl.of_keeps fun b o hb hnf => ?_, ?_⟩
    · obtain ⟨sl, hs⟩ := hs₁.2.2 b o hb
      exact ⟨_, keep b _ (noRecord b o hb hnf) (hgrow _ _ hs), rfl⟩
    · exact ⟨_, _, h₁.objs.size, _, ts, he₃, ⟨Obj.cls_mapFields _ _, dict_mapFields _ _⟩, hd₃, by simp [hsz], kb₁.fresh, hTe, keep _ _ hTe hT₂, ets, h3⟩
  · intro b o hb hnf
    obtain ⟨sl, hs⟩ := hs₁.2.2 b o hb
    exact ⟨sl, keep b _ (noRecord b o hb hnf) (hgrow _ _ hs)⟩
/-- a new exception is noted by the frame where it was raised -/
theorem note_firstD (hfr : A.frames = some (env :: outer)) (hl : s.heap.FunFrames B (env :: outer)) (hf : env.frame = some L)
    (he : s.heap.get? e = some oe) (hkb : B.StaysIn s.heap) (hen : B.get? e = none) (hd : oe.data = .fields vs) (h1 : vs[1]? = some .none)
    (h : ∀ h', FlyD B (env :: outer) e oe.cls oe.dict (rawInt L) h' → s.heap.UpToSlots h' → Q () { s with heap := h' }) : wpAny M A (noteFrame (.ref e) env) Q E s := by
  unfold noteFrame
  simp only [hf]
  refine wpAny_bind (wpAny_field he hd h1 ?_)
  rw [if_neg (by decide)]
  exact entryD hfr hl hf he hkb hen hd (Array.getElem?_eq_some_iff.mp h1).1 h
/-- one that flew here is noted -/
theorem note_nextD (hfr : A.frames = some (env :: outer)) (hf : env.frame = some L) (hfl : FlyD B (env :: outer) e oc od .none s.heap)
    (h : ∀ h', FlyD B (env :: outer) e oc od (rawInt L) h' → s.heap.UpToSlots h' → Q () { s with heap := h' }) : wpAny M A (noteFrame (.ref e) env) Q E s := by
  obtain ⟨hkb, hen, hl, oe, vs, T, oT, ts, he, ⟨rfl, rfl⟩, hd, h1, hnT, hTe, hT, hdT, h3⟩ := hfl
  unfold noteFrame
  simp only [hf]
  refine wpAny_bind (wpAny_field he hd h1 ?_)
  rw [if_pos (show (Value.ref T != Value.none) = true from by simp)]
  refine wpAny_bind (wpAny_field hT hdT h3 ?_)
  rw [if_neg (show ¬ ((Value.none == rawInt L) = true) from by simp [rawInt])]
  refine wpAny_bind (wpAny_setField hT hdT (Array.getElem?_eq_some_iff.mp h3).1 ?_)
  have other : ∀ b, b ≠ T → (s.heap.update T (Obj.mapFields (·.setIfInBounds 3 Value.none))).get? b = s.heap.get? b := fun b hb => Heap.get?_update_other _ _ (Ne.symm hb)
  have noRecord : ∀ b o, s.heap.get? b = some o → (∀ vs, o.data ≠ .fields vs) → b ≠ T := fun b o hb hnf q => by
    rw [q, hT] at hb; injection hb with hb; subst hb; exact hnf ts hdT
  refine entryD hfr (hl.of_keeps fun b o hb hnf => ⟨o, (other b (noRecord b o hb hnf)).trans hb, rfl⟩) hf ((other e (Ne.symm hTe)).trans he)
    (fun b o hbo => (other b fun q => by rw [q, hnT] at hbo; cases hbo).trans (hkb b o hbo)) hen hd (Array.getElem?_eq_some_iff.mp h1).1
    fun h' x1 x2 => h h' x1 fun b o hb hnf => x2 b o ((other b (noRecord b o hb hnf)).trans hb) hnf
theorem flight_noneD {l : List Env} (hfl : FlyD B l e oc od fl s.heap) (h : ∀ h', FlyD B l e oc od .none h' → s.heap.UpToSlots h' → Q () { s with heap := h' }) :
    wpAny M A (setFlight (.ref e) none) Q E s := by
  obtain ⟨hkb, hen, hl, oe, vs, T, oT, ts, he, hc, hd, h1, hnT, hTe, hT, hdT, h3⟩ := hfl
  have hsz3 : 3 < ts.size := (Array.getElem?_eq_some_iff.mp h3).1
  have other : ∀ b, b ≠ T → (s.heap.update T (Obj.mapFields (·.setIfInBounds 3 ((none : Option Addr).elim Value.none fun f => rawInt f)))).get? b = s.heap.get? b :=
    fun b hb => Heap.get?_update_other _ _ (Ne.symm hb)
  have noRecord : ∀ b o, s.heap.get? b = some o → (∀ vs, o.data ≠ .fields vs) → b ≠ T := fun b o hb hnf q => by
    rw [q, hT] at hb; injection hb with hb; subst hb; exact hnf ts hdT
  unfold setFlight
  refine wpAny_bind (wpAny_field he hd h1 ?_)
  rw [if_pos (show (Value.ref T != Value.none) = true from by simp)]
  refine wpAny_setField hT hdT hsz3 (h _ ⟨fun b o hbo => (other b fun q => by rw [q, hnT] at hbo; cases hbo).trans (hkb b o hbo), hen,
    hl.of_keeps fun b o hb hnf => ⟨o, (other b (noRecord b o hb hnf)).trans hb, rfl⟩, ?_⟩ fun b o hb hn => ⟨o.slots, (other b (noRecord b o hb hn)).trans hb⟩)
  exact ⟨oe, vs, T, _, _, (other e (Ne.symm hTe)).trans he, hc, hd, h1, hnT, hTe, Heap.get?_update_self _ hT (Obj.isFreed_of_fields (Obj.data_mapFields hdT _)), Obj.data_mapFields hdT _, by simp [hsz3]⟩
theorem FlyD.out (x : FlyD B (env :: outer) e oc od fl s.heap) : FlyD B outer e oc od fl s.heap := let ⟨a, b, ⟨_, _, f⟩, d⟩ := x; ⟨a, b, f, d⟩
end
end Mine
end
section
open PySem PySem.W PySem.Calls PyProof.Rows
namespace Mine
/-- what is said of an exception: its class, its dict, the objects -/
noncomputable abbrev XQ := Value → Option Addr → AH → Prop
/-- B has all of h₀ but the frames of l and e -/
noncomputable def Base (l : List Env) (e : Addr) (h₀ B : Heap) : Prop := ∀ b o, h₀.get? b = some o → b ≠ e → b ∉ l.filterMap (·.frame) → B.get? b = some o
/-- e is new, and none has noted it; or it flew here; or it is noted by the frame env -/
noncomputable def Air (es : List Env) (env : Env) (e : Addr) (oc : Value) (od : Option Addr) (h₀ h' : Heap) : Prop :=
  (h' = h₀ ∧ ∃ oe vs, h₀.get? e = some oe ∧ oe.cls = oc ∧ oe.dict = od ∧ oe.data = .fields vs ∧ vs[1]? = some .none) ∨
  ∃ B fl, Base (callEnvs (env :: es)) e h₀ B ∧ FlyD B (callEnvs (env :: es)) e oc od fl h' ∧ h₀.UpToSlots h' ∧ (fl = .none ∨ fl = rawInt env.locals)
inductive PostN (c : Cfg) (rest : List Frm) (env : Env) (H : AH) (X : XQ) (s : Shared) (v : Value) (s' : Shared) : Prop
  | mk (am' : AEnv) (H' : AH) (h₀ h' : Heap) (tk : Nat) (e : Addr) (oc : Value) (od : Option Addr) (_ : s' = { s with heap := h', toks := tk }) (_ : v = .ref e) (_ : Air (rest.map (·.env)) env e oc od h₀ h') (_ : H' e = none) (_ : c.G.get? e = none) (_ : ∀ f ∈ (⟨env, am'⟩ :: rest : List Frm), f.env.locals ≠ e)
    (_ : ∀ o, s.heap.get? e = some o → free H e → (∀ en ∈ envs rest env, en.locals ≠ e) → False) (_ : Ext (envs rest env) H s.heap H' h₀) (_ : St c (⟨env, am'⟩ :: rest) H' h₀) (_ : X oc od H') : PostN c rest env H X s v s'
theorem PostN.after {c : Cfg} {rest : List Frm} {env : Env} {H H₁ : AH} {h₁ : Heap} {tk₁ : Nat} {X : XQ} {s s' : Shared} {v : Value} (x : Ext (envs rest env) H s.heap H₁ h₁) (p : PostN c rest env H₁ X { s with heap := h₁, toks := tk₁ } v s') : PostN c rest env H X s v s' := by
  obtain ⟨am', H', h₀, h', tk, e, oc, od, rfl, rfl, air, hH, hG, hf, hn, x', S', q⟩ := p
  exact ⟨am', H', h₀, h', tk, e, oc, od, rfl, rfl, air, hH, hG, hf, fun o z n f => by
    obtain ⟨z', n'⟩ := x.keep e o z n f
    exact hn o z' (n.of_eq n') f, x.trans x', S', q⟩
theorem funFrames_St {c : Cfg} {fs : List Frm} {H : AH} {h B : Heap} (S : St c fs H h) (hB : ∀ en ∈ callEnvs (fs.map (·.env)), B.get? en.locals = none) : h.FunFrames B (callEnvs (fs.map (·.env))) := by
  have key : ∀ l : List Env, (∀ en ∈ l, en ∈ callEnvs (fs.map (·.env))) → h.FunFrames B l := by
    intro l
    induction l with
    | nil => intro _; trivial
    | cons en l ih =>
      intro hl
      have m := hl en (.head _)
      unfold callEnvs at m
      obtain ⟨m1, m2⟩ := List.mem_filter.mp m
      obtain ⟨f, mf, rfl⟩ := List.mem_map.mp m1
      have F := S.frs f mf
      obtain ⟨mc, ⟨ob, es, ep, g, hd, _⟩, _⟩ := F.ns
      refine ⟨(by rw [F.kind]; intro z; cases z), ⟨f.env.locals, ob, by simpa using m2, hB _ (hl _ (.head _)), g, fun vs z => by rw [hd] at z; cases z⟩, ih fun en m => hl en (.tail _ m)⟩
  exact key _ fun _ m => m
theorem mem_frames {es : List Env} {en : Env} (m : en ∈ callEnvs es) : en.locals ∈ (callEnvs es).filterMap (·.frame) := by
  unfold callEnvs at m ⊢
  have := (List.mem_filter.mp m).2
  exact List.mem_filterMap.mpr ⟨en, m, by simpa using this⟩
theorem base_hide {l : List Env} {e : Addr} {h₀ : Heap} : Base l e h₀ (hideAll h₀ (e :: l.filterMap (·.frame))) := fun b o g n m => hideAll_get _ g fun z => by
  rcases List.mem_cons.mp z with z | z
  · exact n z
  · exact m z
theorem note_againD {M : Model} {A : Around} {E : Value → Shared → Prop} {s : Shared} {B : Heap} {env : Env} {l : List Env} {L e : Addr} {oc : Value} {od : Option Addr} {Q : Unit → Shared → Prop} (hf : env.frame = some L) (hh : FlyD B l e oc od (rawInt L) s.heap) (h : Q () s) : wpAny M A (noteFrame (.ref e) env) Q E s := by
  obtain ⟨_, _, _, oe, vs, T, oT, ts, he, hc, hd, h1, hnT, hTe, hT, hdT, h3⟩ := hh
  unfold noteFrame
  simp only [hf]
  refine wpAny_bind (wpAny_field he hd h1 ?_)
  rw [if_pos (show (Value.ref T != Value.none) = true from by simp)]
  refine wpAny_bind (wpAny_field hT hdT h3 ?_)
  rw [if_pos (show (rawInt L == rawInt L) = true from by simp)]
  exact wpAny_pure h
theorem Air.note {c : Cfg} {A : Around} {k : Nat} {fs : List Frm} {env : Env} {am : AEnv} {H : AH} {e : Addr} {oc : Value} {od : Option Addr} {h₀ : Heap} {s : Shared} {E : Value → Shared → Prop} {Q : Unit → Shared → Prop} (hf : env.frame = some env.locals) (hA : A.frames = some (callEnvs (env :: fs.map (·.env))))
    (S : St c (⟨env, am⟩ :: fs) H h₀) (air : Air (fs.map (·.env)) env e oc od h₀ s.heap)
    (q : ∀ B h', Base (callEnvs (env :: fs.map (·.env))) e h₀ B → FlyD B (callEnvs (env :: fs.map (·.env))) e oc od (rawInt env.locals) h' → h₀.UpToSlots h' → Q () { s with heap := h' }) : wpAny (Md c) A (noteFrame (.ref e) env) Q E s := by
  rcases air with ⟨rfl, oe, vs, he, rfl, rfl, hd, h1⟩ | ⟨B, fl, hb, hF, hu, rfl | rfl⟩
  · have hA' := hA
    rw [callEnvs_cons hf] at hA'
    refine note_firstD (B := hideAll s.heap (e :: (callEnvs (env :: fs.map (·.env))).filterMap (·.frame))) hA' ?_ hf he (fun b o z => of_hideAll _ z) (hideAll_none _ (.head _)) hd h1 fun h' x1 x2 => ?_
    · rw [← callEnvs_cons hf]
      exact funFrames_St (fs := ⟨env, am⟩ :: fs) S fun en m => hideAll_none _ (.tail _ (mem_frames m))
    · rw [← callEnvs_cons hf] at x1
      exact q _ h' base_hide x1 x2
  · have hF' := hF
    have hA' := hA
    rw [callEnvs_cons hf] at hF' hA'
    exact note_nextD hA' hf hF' fun h' x1 x2 => q B h' hb (by rw [callEnvs_cons hf]; exact x1) (hu.trans x2)
  · exact note_againD hf hF (q B s.heap hb hF hu)
theorem flight_toD {M : Model} {A : Around} {E : Value → Shared → Prop} {s : Shared} {B : Heap} {l : List Env} {e L : Addr} {oc fl : Value} {od : Option Addr} {Q : Unit → Shared → Prop} (hfl : FlyD B l e oc od fl s.heap) (h : ∀ h', FlyD B l e oc od (rawInt L) h' → s.heap.UpToSlots h' → Q () { s with heap := h' }) :
    wpAny M A (setFlight (.ref e) (some L)) Q E s := by
  obtain ⟨hkb, hen, hl, oe, vs, T, oT, ts, he, hc, hd, h1, hnT, hTe, hT, hdT, h3⟩ := hfl
  have hsz3 : 3 < ts.size := (Array.getElem?_eq_some_iff.mp h3).1
  have other : ∀ b, b ≠ T → (s.heap.update T (Obj.mapFields (·.setIfInBounds 3 ((some L : Option Addr).elim Value.none fun f => rawInt f)))).get? b = s.heap.get? b :=
    fun b hb => Heap.get?_update_other _ _ (Ne.symm hb)
  have noRecord : ∀ b o, s.heap.get? b = some o → (∀ vs, o.data ≠ .fields vs) → b ≠ T := fun b o hb hnf q => by
    rw [q, hT] at hb; injection hb with hb; subst hb; exact hnf ts hdT
  unfold setFlight
  refine PySem.wpAny_bind (wpAny_field he hd h1 ?_)
  rw [if_pos (show (Value.ref T != Value.none) = true from by simp)]
  refine wpAny_setField hT hdT hsz3 (h _ ⟨fun b o hbo => (other b fun q => by rw [q, hnT] at hbo; cases hbo).trans (hkb b o hbo), hen,
    hl.of_keeps fun b o hb hnf => ⟨o, (other b (noRecord b o hb hnf)).trans hb, rfl⟩, ?_⟩ fun b o hb hn => ⟨o.slots, (other b (noRecord b o hb hn)).trans hb⟩)
  exact ⟨oe, vs, T, _, _, (other e (Ne.symm hTe)).trans he, hc, hd, h1, hnT, hTe, Heap.get?_update_self _ hT (Obj.isFreed_of_fields (Obj.data_mapFields hdT _)), Obj.data_mapFields hdT _, by simp [hsz3]⟩
/-- as W; or an exception is raised, and X holds -/
noncomputable def WX (c : Cfg) (k : Nat) (rest : List Frm) (env : Env) {α β : Type} (R : Heap → β → α → Prop) (t : Sem β) (am : AEnv) (H : AH) (Q : α → AEnv → AH → Prop) (X : XQ) : Prop :=
  ∀ (A : Around) (s : Shared), c.Ok → AOk A k (envs rest env) → St c (⟨env, am⟩ :: rest) H s.heap → wpAny (Md c) A t (Post c rest env R H Q s) (PostN c rest env H X s) s
section
variable {c : Cfg} {k : Nat} {rest : List Frm} {env : Env} {α β : Type} {R : Heap → β → α → Prop} {am : AEnv} {H : AH} {X : XQ}
theorem WX.of {t : Sem β} {Q : α → AEnv → AH → Prop} (w : W c k rest env R t am H Q) : WX c k rest env R t am H Q X := fun A s o a S => w A s _ o a S
theorem WX.run {t : Sem β} {Q : α → AEnv → AH → Prop} {A : Around} {s : Shared} {H₁ : AH} {h₁ : Heap} {tk₁ : Nat} {am₁ : AEnv} (w : WX c k rest env R t am₁ H₁ Q X) (o : c.Ok) (a : AOk A k (envs rest env)) (S : St c (⟨env, am₁⟩ :: rest) H₁ h₁)
    (x : Ext (envs rest env) H s.heap H₁ h₁) : wpAny (Md c) A t (Post c rest env R H Q s) (PostN c rest env H X s) { s with heap := h₁, toks := tk₁ } :=
  wpAny_mono (w A { s with heap := h₁, toks := tk₁ } o a S) (fun _ _ p => Post.after x p) fun _ _ p => PostN.after x p
theorem WX.step {t : Sem β} {Q : α → AEnv → AH → Prop} {A : Around} {s : Shared} {P : β → Shared → Prop} (w : WX c k rest env R t am H Q X) (o : c.Ok) (a : AOk A k (envs rest env)) (S : St c (⟨env, am⟩ :: rest) H s.heap)
    (q : ∀ v a am' H' h' tk, R h' v a → Ext (envs rest env) H s.heap H' h' → St c (⟨env, am'⟩ :: rest) H' h' → Q a am' H' → P v { s with heap := h', toks := tk }) :
    wpAny (Md c) A t P (PostN c rest env H X s) s := wpAny_mono (w A s o a S) (fun v s' p => by
      obtain ⟨a, am', H', h', tk, rfl, r, x, S', z⟩ := p
      exact q v a am' H' h' tk r x S' z) fun _ _ e => e
noncomputable def ThenX (c : Cfg) (k : Nat) (rest : List Frm) (env : Env) (r : List Stmt) (Q : AF → AEnv → AH → Prop) (X : XQ) (f : AF) (am : AEnv) (H : AH) : Prop := match f with
  | .next => WX c k rest env RF (execs r env) am H Q X
  | f => Q f am H
theorem ThenX_next {r : List Stmt} {Q : AF → AEnv → AH → Prop} (w : WX c k rest env RF (execs r env) am H Q X) : ThenX c k rest env r Q X .next am H := w
theorem ThenX_ret {r : List Stmt} {a : AV} {Q : AF → AEnv → AH → Prop} (q : Q (.ret a) am H) : ThenX c k rest env r Q X (.ret a) am H := q
theorem WX_execs_cons {st r} {Q : AF → AEnv → AH → Prop} (w : WX c k rest env RF (exec st env) am H (ThenX c k rest env r Q X) X) : WX c k rest env RF (execs (st :: r) env) am H Q X := fun A s o a S =>
  wpAny_execs_cons (w.step o a S fun v f am' H' h' tk r' x S' q => by
    revert q
    apply RF.four r'
    · intro q; exact WX.run (t := execs r env) q o a S' x
    · intro q; exact Post.intro (a := AF.brk) trivial x S' q
    · intro q; exact Post.intro (a := AF.cont) trivial x S' q
    · intro u b r' q; exact Post.intro (a := AF.ret b) r' x S' q)
theorem WX_execs_W {st r} {Q : AF → AEnv → AH → Prop} (w : W c k rest env RF (exec st env) am H (ThenX c k rest env r Q X)) : WX c k rest env RF (execs (st :: r) env) am H Q X := WX_execs_cons (WX.of w)
theorem WX_execs_nil {Q : AF → AEnv → AH → Prop} (q : Q .next am H) : WX c k rest env RF (execs [] env) am H Q X := WX.of (W_execs_nil q)
theorem WX_If {test body orelse pos} {Q : AF → AEnv → AH → Prop}
    (w : W c k rest env RB (isTrue test env (eval test env)) am H fun b am H => if b then WX c k rest env RF (execs body env) am H Q X else WX c k rest env RF (execs orelse env) am H Q X) :
    WX c k rest env RF (exec (.If test body orelse pos) env) am H Q X := fun A s o a S =>
  wpAny_If (w.step o a S fun v b am' H' h' tk r x S' w' => by
    have r' : v = b := r
    subst r'
    cases v with
    | true => exact WX.run (t := execs body env) w' o a S' x
    | false => exact WX.run (t := execs orelse env) w' o a S' x)
theorem WX_While {test : Expr} {body : List Stmt} {pos : Pos} {Q : AF → AEnv → AH → Prop} (J : Nat → AEnv → AH → Prop) (n : Nat) (j : J n am H)
    (turn : ∀ n am H, J n am H → W c k rest env RB (isTrue test env (eval test env)) am H fun b am H => if b then WX c k rest env RF (execs body env) am H (LoopQ (fun am H => ∃ m, m < n ∧ J m am H) Q) X else Q .next am H)
    (hf : env.frame = some env.locals := by rfl) : WX c k rest env RF (exec (.While test body [] pos) env) am H Q X := fun A s o a S => by
  refine wpAny_While (codeAny_whileLoop (fun n s' => ∃ am₁ H₁ h₁ tk₁, s' = { s with heap := h₁, toks := tk₁ } ∧ Ext (envs rest env) H s.heap H₁ h₁ ∧ St c (⟨env, am₁⟩ :: rest) H₁ h₁ ∧ J n am₁ H₁) ?_ n ⟨am, H, s.heap, s.toks, rfl, .refl, S, j⟩)
  rintro n s' ⟨am₁, H₁, h₁, tk₁, rfl, x₁, S₁, j₁⟩
  refine W.step (turn n am₁ H₁ j₁) o a S₁ fun v b am₂ H₂ h₂ tk₂ r x₂ S₂ w₂ => ?_
  have r' : v = b := r
  subst r'
  cases v with
  | false => exact wpAny_execs_nil (Post.intro (a := AF.next) trivial (x₁.trans x₂) S₂ w₂)
  | true =>
    refine wpAny_mono (WX.step (t := execs body env) (P := fun v s' => _) w₂ o a S₂ fun fl f am₃ H₃ h₃ tk₃ rf x₃ S₃ q => ?_) (fun _ _ p => p) fun v s₅ p => ?_
    rotate_left
    · have p' : PostN c rest env H X s v s₅ := PostN.after (x₁.trans x₂) p
      clear p
      obtain ⟨am', H', h₀, h', tk, e, oc, od, rfl, rfl, air, hH, hG, hfe, hn, x', S', q⟩ := p'
      refine Air.note (k := k) (s := { s with heap := h', toks := tk }) hf a.frames S' air fun B h₆ hb hF hu => ?_
      unfold cameBackBy
      obtain ⟨hkb, hen, hl, oe, vs, T, oT, ts, he, hc, hd, h1, r⟩ := id hF
      refine PySem.wpAny_bind (wpAny_field (s := { s with heap := h₆, toks := tk }) he hd h1 ?_)
      rw [if_neg (show ¬ ((Value.ref T == Value.none) = true) from by simp)]
      rw [hf]
      refine flight_toD (s := { s with heap := h₆, toks := tk }) hF fun h₇ hF' hu' => ?_
      exact ⟨am', H', h₀, h₇, tk, e, oc, od, rfl, rfl, .inr ⟨B, _, hb, hF', hu.trans hu', .inr rfl⟩, hH, hG, hfe, hn, x', S', q⟩
    have x := (x₁.trans x₂).trans x₃
    revert q
    apply RF.four rf
    · intro q; obtain ⟨m, hm, j⟩ := q; exact ⟨m, hm, am₃, H₃, h₃, tk₃, rfl, x, S₃, j⟩
    · intro q; exact Post.intro (a := AF.next) trivial x S₃ q
    · intro q; obtain ⟨m, hm, j⟩ := q; exact ⟨m, hm, am₃, H₃, h₃, tk₃, rfl, x, S₃, j⟩
    · intro u b rf q; exact Post.intro (a := AF.ret b) rf x S₃ q
end
/-- an exception came out of a call -/
inductive PostF (c : Cfg) (fs : List Frm) (H : AH) (X : XQ) (s : Shared) (v : Value) (s' : Shared) : Prop
  | mk (H' : AH) (h₀ h' : Heap) (tk : Nat) (e : Addr) (oc : Value) (od : Option Addr) (B : Heap) (_ : s' = { s with heap := h', toks := tk }) (_ : v = .ref e) (_ : Base (callEnvs (fs.map (·.env))) e h₀ B) (_ : FlyD B (callEnvs (fs.map (·.env))) e oc od .none h') (_ : h₀.UpToSlots h') (_ : H' e = none) (_ : c.G.get? e = none) (_ : ∀ f ∈ fs, f.env.locals ≠ e)
    (_ : ∀ o, s.heap.get? e = some o → free H e → (∀ en ∈ fs.map (·.env), en.locals ≠ e) → False) (_ : Ext (fs.map (·.env)) H s.heap H' h₀) (_ : St c fs H' h₀) (_ : X oc od H') : PostF c fs H X s v s'
/-- as Cl; or an exception comes out, and X holds -/
noncomputable def CX (c : Cfg) (k : Nat) (f : Value) (as : List AV) (H : AH) (Q : AV → AH → Prop) (X : XQ) : Prop :=
  ∀ (A : Around) (fs : List Frm) (s : Shared) (vs : List Value), fs ≠ [] → c.Ok → AOk A k (fs.map (·.env)) → St c fs H s.heap → VRs s.heap as vs →
    codeAny (Md c) A (.call f ⟨vs, []⟩) (fun r s' => (∃ v, r = .ok (.ret v) ∧ PostC c fs H Q s v s') ∨ ∃ v, r = .error v ∧ PostF c fs H X s v s') s
theorem St.hidden {c : Cfg} {fs : List Frm} {H : AH} {h : Heap} (S : St c fs H h) {a : Addr} (h1 : H a = none) (h2 : ∀ f ∈ fs, f.env.locals ≠ a) (h3 : c.G.get? a = none) (h4 : ∀ items, ¬ IsTup h a items) : St c fs H (h.hide a) ∧ TupExt h (h.hide a) :=
  S.off (wr := [a]) (fun b m => by rw [List.mem_singleton.mp m]; exact ⟨h1, h2, h3⟩) (fun b m => by rw [List.mem_singleton.mp m]; exact h4) fun b o n e => (Heap.hide_ne h (fun z => n (by rw [z]; exact .head _))).trans e
theorem leave_N {c : Cfg} {A : Around} {k : Nat} {fs : List Frm} {env : Env} {H : AH} {X : XQ} {s s₁ : Shared} {h₁ : Heap} {tk₁ : Nat} {v : Value} {R : Unit → Shared → Prop} {E : Value → Shared → Prop} (hf : env.frame = some env.locals) (hA : A.frames = some (callEnvs (env :: fs.map (·.env))))
    (hk₁ : ∀ b o, s.heap.get? b = some o → h₁.get? b = some o) (hl : s.heap.get? env.locals = none) (p : PostN c fs env H X { s with heap := h₁, toks := tk₁ } v s₁)
    (q : ∀ s', PostF c fs H X s v s' → R () s') : wpAny (Md c) A (leaving env v) R E s₁ := by
  obtain ⟨am', H', h₀, h', tk, e, oc, od, rfl, rfl, air, hH, hG, hfe, hn, x', S', z⟩ := p
  unfold leaving
  refine PySem.wpAny_bind (Air.note (k := k) (s := { s with heap := h', toks := tk }) hf hA S' air fun B h₆ hb hF hu => ?_)
  refine flight_noneD (s := { s with heap := h₆, toks := tk }) hF fun h₇ hF' hu' => ?_
  rw [callEnvs_cons hf] at hF' hb
  have hO := FlyD.out (s := { s with heap := h₇, toks := tk }) hF'
  have T := S'.top
  obtain ⟨mc, ⟨ob, es, ep, g, hd, _⟩, _⟩ := T.ns
  have n1 : H' env.locals = none := by
    cases w : H' env.locals with
    | none => rfl
    | some o => exact absurd rfl ((S'.objs _ _ w).2.1 _ (.head _))
  have n2 : ∀ f ∈ fs, f.env.locals ≠ env.locals := fun f m w => by
    have a := S'.apart
    rw [List.map_cons, List.nodup_cons] at a
    exact a.1 (List.mem_map.mpr ⟨f, m, w⟩)
  obtain ⟨S₂, tx⟩ := S'.leave.hidden n1 n2 T.new (fun items ⟨o, e, _, n, d⟩ => by rw [g] at e; cases e; rw [hd] at d; cases d)
  refine q _ ⟨H', h₀.hide env.locals, h₇, tk, e, oc, od, B, rfl, rfl, fun b o w n m => ?_, hO, fun b o w nf => ?_, hH, hG, fun f m => hfe f (.tail _ m), fun o w n f => ?_, ⟨fun a i t => ?_, fun b o w n f => ?_⟩, S₂, z⟩
  · have w' := Heap.of_hide w
    refine hb b o w' n fun m' => ?_
    rw [List.filterMap_cons, hf] at m'
    rcases List.mem_cons.mp m' with rfl | m'
    · rw [Heap.hide_self] at w; cases w
    · exact m m'
  · exact (hu.trans hu') b o (Heap.of_hide w) nf
  · refine hn o (hk₁ _ _ w) n fun en m => ?_
    rcases List.mem_cons.mp m with rfl | m
    · rintro rfl; rw [hl] at w; cases w
    · exact f en m
  · exact tx a i (x'.tup a i (by
      obtain ⟨o, e, r⟩ := t
      exact ⟨o, hk₁ _ _ e, r⟩))
  · have nl : b ≠ env.locals := by rintro rfl; rw [hl] at w; cases w
    obtain ⟨e1, e2⟩ := x'.keep b o (hk₁ _ _ w) n fun e' m => by
      rcases List.mem_cons.mp m with rfl | m
      · exact nl.symm
      · exact f e' m
    exact ⟨(Heap.hide_ne h₀ nl).trans e1, e2⟩
section
variable {c : Cfg} {k : Nat} {H : AH} {as as' : List AV} {Q : AV → AH → Prop} {X : XQ}
theorem CX_fnG {fa : Addr} {name qual : Str} {params : Arguments} {body : List Stmt} {scope : Scope} {dV kV doc pm cdv ct oc : Value} {an od : Option Addr} {osl : Array (Option Value)} (xs : List Str)
    (ho : ∀ P, (KK P).lookup fa = some ⟨oc, od, .func (fnOf name qual params body scope dV kV doc pm an cdv ct), osl⟩) (hcd : ∀ P, codeIn (KK P) cdv qual = true)
    (hb : ∀ (s : Shared) vs, (KK c.w.params).In s.heap → VRs s.heap as vs → ∃ vs', BindsTo s (fnOf name qual params body scope dV kV doc pm an cdv ct) ⟨vs, []⟩ (xs.zip vs') ∧ VRs s.heap as' vs')
    (hloc : ∀ x ∈ xs, scope.names.lookup x = some .local) (hcell : ∀ x ∈ scope.names, x.2 ≠ .cell)
    (w : ∀ L fs, WX c k fs (envOf qual scope L fa cdv) RF (execs body (envOf qual scope L fa cdv)) (amZ xs as') H (fun f _ H' => Q f.out H') X)
    (hco : scope.isCoroutine = false := by rfl) (hgen : scope.isGenerator = false := by rfl) (hk : scope.kind = .function := by rfl) : CX c (k + 1) (.ref fa) as H Q X := by
  intro A fs s vs n o a S r
  obtain ⟨vs', B, r'⟩ := hb s vs (S.K o) r
  refine codeAny_call_def (fd := fnOf name qual params body scope dV kV doc pm an cdv ct) (body := body) a.room (S.K o _ _ (ho _)) rfl (S.T o).nolimit (codeRec_of (S.K o) (hcd _)) rfl B hcell (fun x m => ?_) (fun h₁ hns hk₁ => ?_) hco hgen hk
  · exact hloc _ (List.of_mem_zip m).1
  · have hl : s.heap.get? s.heap.objs.size = none := Heap.get?_none_of_le (Nat.le_refl _)
    have S₁ : St c (⟨envOf qual scope s.heap.objs.size fa cdv, amZ xs as'⟩ :: fs) H h₁ := S.enter n hk₁ hl (Nat.le_refl _) hk ⟨_, hns, (lookup_R (mapR_zip (y := qual) r').reverse).mono (Keeps.tup hk₁)⟩
    have a' := a.deeper (e := envOf qual scope s.heap.objs.size fa cdv) rfl
    refine wpAny_mono (w s.heap.objs.size fs _ ⟨h₁, s.gens, s.drawn, s.toks + (xs.zip vs').length, s.os⟩ o a' S₁) (fun fl s' p => ?_) fun v s' p => ?_
    · obtain ⟨f, am', H', h', tk, rfl, rf, x, S', q⟩ := p
      refine .inl ⟨_, rfl, f.out, H', h', tk, rfl, ?_, x.leave hk₁ hl, S'.leave, q⟩
      cases fl <;> cases f <;> first | exact rf | exact rf.elim | (simp only [AF.out, VR])
    · exact leave_N (k := k) (s := s) rfl a'.frames hk₁ hl p fun s' p' => .inr ⟨v, rfl, p'⟩
/-- a def without defaults -/
theorem CX_fn {fa : Addr} {name qual : Str} {params : Arguments} {body : List Stmt} {scope : Scope} {dV kV doc pm cdv ct oc : Value} {an od : Option Addr} {osl : Array (Option Value)} (xs : List Str)
    (ho : ∀ P, (KK P).lookup fa = some ⟨oc, od, .func (fnOf name qual params body scope dV kV doc pm an cdv ct), osl⟩) (hcd : ∀ P, codeIn (KK P) cdv qual = true)
    (hb : ∀ vs, vs.length = as.length → bindArgs (fnOf name qual params body scope dV kV doc pm an cdv ct) ⟨vs, []⟩ = pure (xs.zip vs))
    (hloc : ∀ x ∈ xs, scope.names.lookup x = some .local) (hcell : ∀ x ∈ scope.names, x.2 ≠ .cell)
    (w : ∀ L fs, WX c k fs (envOf qual scope L fa cdv) RF (execs body (envOf qual scope L fa cdv)) (amZ xs as) H (fun f _ H' => Q f.out H') X)
    (hco : scope.isCoroutine = false := by rfl) (hgen : scope.isGenerator = false := by rfl) (hk : scope.kind = .function := by rfl) : CX c (k + 1) (.ref fa) as H Q X :=
  CX_fnG xs ho hcd (fun s vs _ r => ⟨vs, BindsTo.of_eq (hb vs r.length), r⟩) hloc hcell w hco hgen hk
end
inductive TryCls (C : Addr) : Prop
  | mk (nm q N bs bm hdct sn sub ab col dd k0 k1 k2 k3 k5 newId) (_ : bm.contains (.type "BaseException") = true) (_ : ∀ P, (KK P).lookup C = some (excClassObj nm q C N bs bm hdct sn sub ab col dd k0 k1 k2 k3 k5 newId)) : TryCls C
/-- after a landing all is as it was -/
theorem land {c : Cfg} {fs : List Frm} {H : AH} {e : Addr} {oc fl : Value} {od : Option Addr} {h₀ h' B : Heap} (S : St c fs H h₀) (hb : Base (callEnvs (fs.map (·.env))) e h₀ B) (hF : FlyD B (callEnvs (fs.map (·.env))) e oc od fl h') (hu : h₀.UpToSlots h')
    (hH : H e = none) (hG : c.G.get? e = none) (hf : ∀ f ∈ fs, f.env.locals ≠ e) :
    St c fs H h' ∧ ∀ {H₀ : AH} {h : Heap}, (∀ o, h.get? e = some o → free H₀ e → (∀ en ∈ fs.map (·.env), en.locals ≠ e) → False) → Ext (fs.map (·.env)) H₀ h H h₀ → Ext (fs.map (·.env)) H₀ h H h' := by
  have tx : TupExt h₀ h' := fun a items ⟨o, g, c, n, d⟩ => by
    obtain ⟨sl, hs⟩ := hu a o g fun vs z => by rw [d] at z; cases z
    exact ⟨_, hs, c, n, d⟩
  have nf : ∀ {b : Addr}, b ∈ (callEnvs (fs.map (·.env))).filterMap (·.frame) → ∃ f ∈ fs, f.env.locals = b := fun {b} m => by
    obtain ⟨en, m1, m2⟩ := List.mem_filterMap.mp m
    unfold callEnvs at m1
    obtain ⟨m3, m4⟩ := List.mem_filter.mp m1
    obtain ⟨f, mf, rfl⟩ := List.mem_map.mp m3
    have := m4; simp only [m2] at this
    exact ⟨f, mf, (show b = f.env.locals by simpa using this).symm⟩
  have key : ∀ b o, h₀.get? b = some o → b ≠ e → (∀ f ∈ fs, f.env.locals ≠ b) → h'.get? b = some o := fun b o g n m => hF.1 b o (hb b o g n fun z => let ⟨f, mf, ef⟩ := nf z; m f mf ef)
  refine ⟨⟨fun b o g => key b o (S.ground b o g) (by rintro rfl; rw [hG] at g; cases g) fun f m z => ?_, fun a o g => ?_, fun f m => (S.frs f m).mono tx fun mc n => hu.ns n, S.apart⟩, fun {H₀ h} hn x => ⟨x.tup.trans tx, fun b o g n m => ?_⟩⟩
  · have := (S.frs f m).new; rw [z, g] at this; cases this
  · obtain ⟨p, q, r⟩ := S.objs a o g
    exact ⟨p, q, r.mono tx fun ob w => key a ob w (by rintro rfl; rw [hH] at g; cases g) q⟩
  · obtain ⟨q, q'⟩ := x.keep b o g n m
    exact ⟨key b o q (by rintro rfl; exact hn o g n m) fun f mf => m _ (List.mem_map.mpr ⟨f, mf, rfl⟩), q'⟩
section
variable {c : Cfg} {k : Nat} {rest : List Frm} {env : Env} {am : AEnv} {H : AH} {X : XQ}
theorem WX_of_CX {f : Value} {as : List AV} {Q : AV → AEnv → AH → Prop} (w : CX c k f as H (fun a H' => Q a am H') X) {A : Around} {s : Shared} {vs : List Value} (o : c.Ok) (a : AOk A k (envs rest env)) (S : St c (⟨env, am⟩ :: rest) H s.heap) (r : VRs s.heap as vs) :
    wpAny (Md c) A (call f vs) (Post c rest env RV H Q s) (PostN c rest env H X s) s :=
  wpAny_call (codeAny_mono (w A (⟨env, am⟩ :: rest) s vs (by simp) o a S r) fun r s' z => by
    rcases z with ⟨v, rfl, a, H', h', tk, rfl, rv, x, S', z⟩ | ⟨v, rfl, H', h₀, h', tk, e, oc, od, B, rfl, rfl, hb, hF, hu, hH, hG, hf, hn, x, S', z⟩
    · exact Post.intro rv x S' z
    · exact ⟨am, H', h₀, h', tk, e, oc, od, rfl, rfl, .inr ⟨B, _, hb, hF, hu, .inl rfl⟩, hH, hG, hf, hn, x, S', z⟩)
theorem WX_CallDef {x : Str} {npos pos : Pos} {e : Expr} {r : List Expr} {fa : Addr} {Q : AV → AEnv → AH → Prop} (hn : ∀ P, nsIn (KK P) mainGlobals x = some (some (.ref fa))) (hk : ∀ P, keepIn (KK P) (.ref fa) = true)
    (w : W c k rest env RL (spliced (backTo pos (starEach (e :: r) env))) am H fun as am H => CX c k (.ref fa) as H (fun a H' => Q a am H') X)
    (hg : env.globals = mainGlobals := by rfl) (hx : env.kindOf x = some .globalImplicit := by rfl) (hd : (x == ("__debug__" : Str)) = false := by decide)
    (he : starEach (e :: r) env = (false, eval e env) :: starEach r env := by rfl) (hplain : (backTo pos (starEach r env)).any (·.1) = false := by rfl)
    (hc : eval (.Call (.Name x npos) (e :: r) [] pos) env = (do callWith pos (← eval (.Name x npos) env) [] (backTo pos (starEach (e :: r) env)) (backToKw pos (keywordEach [] env))) := by rfl) :
    WX c k rest env RV (eval (.Call (.Name x npos) (e :: r) [] pos) env) am H Q X := fun A s o a S =>
  Call_ (Name_function_global S.top.kind hx (loadGlobal_global (env := env) (by rw [hg]; exact (S.T o).g) (mg_of o.K o.T.g (hn _))
    (callWith_K (S.K o) (hk _) (w.step o a S fun v b am' H' h' tk r x S' w' => ⟨S'.K o, wpAny_mono (WX_of_CX (s := { s with heap := h', toks := tk }) w' o a S' (by rw [List.nil_append]; exact r)) (fun _ _ p => Post.after x p) fun _ _ p => PostN.after x p⟩) he hplain)) hd) hc
theorem WX_Return {e pos} {Q : AF → AEnv → AH → Prop} (w : WX c k rest env RV (eval e env) am H (fun a am H => Q (.ret a) am H) X) : WX c k rest env RF (exec (.Return (some e) pos) env) am H Q X := fun A s o a S =>
  wpAny_Return_some (w.step o a S fun v b am' H' h' tk r x' S' q => Post.intro (a := AF.ret b) r x' S' q)
theorem WX_Expr {e pos} {Q : AF → AEnv → AH → Prop} (w : WX c k rest env RV (eval e env) am H (fun _ am H => Q .next am H) X) (hi : interactive env = false := by rfl) (hs : swapsWith e none pos.line env = pure false := by rfl) :
    WX c k rest env RF (exec (.Expr e pos) env) am H Q X := fun A s o a S =>
  wpAny_Expr_any (w.step o a S fun v b am' H' h' tk r x' S' q => Post.intro (a := AF.next) trivial x' S' q) hi hs
/-- try: body, except C: return ret -/
theorem W_TryRet {C : Addr} {x : Str} {np rp hp pos : Pos} {body : List Stmt} {ret : Expr} {d : AV} {Q : AF → AEnv → AH → Prop} (hn : ∀ P, nsIn (KK P) mainGlobals x = some (some (.ref C)))
    (hC : TryCls C)
    (hret : ∀ (A : Around) (s : Shared) (E : Value → Shared → Prop) (P : Value → Shared → Prop), (∀ v tk, VR s.heap d v → P v { s with toks := tk }) → wpAny (Md c) A (eval ret env) P E s)
    (w : WX c k rest env RF (execs body env) am H Q fun oc od H' => oc = .ref C ∧ ∀ am', Q (.ret d) am' H')
    (hf : env.frame = some env.locals := by rfl) (hg : env.globals = mainGlobals := by rfl) (hx : env.kindOf x = some .globalImplicit := by rfl) (hd : (x == ("__debug__" : Str)) = false := by decide) :
    W c k rest env RF (exec (.Try body [.ExceptHandler (some (.Name x np)) none [.Return (some ret) rp] hp] [] [] pos) env) am H Q := fun A s E o a S => by
  refine wpAny_Try_except (wpAny_mono (w A s o a S) (fun fl s' p => ?_) fun v s' p => ?_)
  · cases fl with
    | next => exact wpAny_execs_nil p
    | brk => exact p
    | cont => exact p
    | ret => exact p
  · obtain ⟨am', H', h₀, h', tk, e, oc, od, rfl, rfl, air, hH, hG, hfe, hn', x', S', rfl, q⟩ := p
    refine Air.note (k := k) (s := { s with heap := h', toks := tk }) hf a.frames S' air fun B h₆ hb hF hu => ?_
    refine flight_noneD (s := { s with heap := h₆, toks := tk }) hF fun h₇ hF' hu' => ?_
    obtain ⟨S₇, -⟩ := land (fs := ⟨env, am'⟩ :: rest) S' hb hF' (hu.trans hu') hH hG hfe
    obtain ⟨nm, qn, N, bs, bm, hdct, sn, sub, ab, col, dd, k0, k1, k2, k3, k5, newId, hbase, hC⟩ := hC
    obtain ⟨_, _, _, oe, vs, T, oT, ts, he, ⟨hcls, hdict⟩, _⟩ := id hF'
    refine wpAny_handleBy_cons (codeAny_handlers_test (Name_function_global S₇.top.kind hx (loadGlobal_global (env := env) (by rw [hg]; exact (S₇.T o).g) (mg_of o.K o.T.g (hn _)) ?_) hd)) (by intro q; cases q)
    refine wpAny_excMatches_sub_self (S₇.K o _ _ (hC _)) he hcls hbase (codeAny_handlers_suite ?_)
    refine flight_noneD (s := { s with heap := h₇, toks := tk }) hF' fun h₈ hF₈ hu₈ => ?_
    obtain ⟨S₈, X₈⟩ := land (fs := ⟨env, am'⟩ :: rest) S' hb hF₈ ((hu.trans hu').trans hu₈) hH hG hfe
    refine wpAny_execs_cons (wpAny_Return_some (hret _ _ _ _ fun v tk rv => ?_))
    exact Post.intro (a := AF.ret d) rv (X₈ hn' x') S₈ (q am')
end
noncomputable def excOk (K : Frag) (C : Addr) (name : Str) : Bool := (clsIn K C).any (fun cd => excMro cd.mro && cd.hasDict) && decide (takerIn K C name = some none) && decide (findIn K (.ref C) "__setattr__" = some (some (.builtin "object.__setattr__")))
section
variable {c : Cfg} {k : Nat} {rest : List Frm} {env : Env} {am : AEnv} {H : AH}
theorem W_setX_none {x C : Addr} {name : Str} {b : AV} {Q : Unit → AEnv → AH → Prop} (hx : H x = some (.exc C none)) (ok : ∀ P, excOk (KK P) C name = true)
    (q : ∀ d, H d = none → d ≠ x → Q () am (upd (upd H x (.exc C (some d))) d (.ns (put (fun _ => none) name b)))) : W2 c k rest env RU b (.ref x) (fun v o => setAttr o name v) am H Q := fun A s E v u o a S r r' => by
  subst r'
  obtain ⟨g1, g2, t, hg⟩ := S.objs _ _ hx
  have z := ok c.w.params
  simp only [excOk, Bool.and_eq_true, decide_eq_true_eq] at z
  obtain ⟨⟨z1, z2⟩, z3⟩ := z
  obtain ⟨cd, hc, z1⟩ := any_some z1
  rw [Bool.and_eq_true] at z1
  refine storeX_none (S.K o) hg rfl rfl rfl hc z1.1 z1.2 z2 z3 fun d h' tk hd hx' hn' kp => ?_
  have nd : d ≠ x := by rintro rfl; rw [hg] at hd; cases hd
  have tx : TupExt s.heap h' := tupExt_of hg (by simp) kp
  have S1 : St c (⟨env, am⟩ :: rest) (upd H x (.exc C (some d))) h' := S.upd hx kp tx ⟨t, hx'⟩
  refine Post.intro (a := ()) trivial ?_ ?_ (q d (S.fresh hd) nd)
  · refine ⟨tx, fun b ob e m _ => ⟨kp _ _ (m.ne hx (by simp)) e, ?_⟩⟩
    rw [upd_ne, upd_ne (m.ne hx (by simp))]
    rintro rfl; rw [hd] at e; cases e
  · refine ⟨S1.ground, fun b ob e => ?_, S1.frs, S1.apart⟩
    by_cases w : b = d
    · subst w
      rw [upd_same] at e; cases e
      refine ⟨?_, fun f m w => ?_, _, hn', fun y hy => ?_, fun y bb hy => ?_⟩
      · cases w : c.G.get? b with
        | none => rfl
        | some o => have := S.ground _ _ w; rw [hd] at this; cases this
      · obtain ⟨mc, ⟨ob, _, _, g, _⟩, _⟩ := (S.frs f m).ns
        rw [w, hd] at g; cases g
      · unfold put at hy; split at hy
        · cases hy
        · rw [if_neg (by assumption)]
      · unfold put at hy; split at hy
        · cases hy; exact ⟨v, if_pos (by assumption), r.mono tx⟩
        · cases hy
    · rw [upd_ne w] at e; exact S1.objs _ _ e
theorem W_setX_some {x C d : Addr} {name : Str} {b : AV} {m : Str → Option AV} {ns : List Str} {Q : Unit → AEnv → AH → Prop} (hx : H x = some (.exc C (some d))) (hd : H d = some (.ns m)) (ok : ∀ P, excOk (KK P) C name = true)
    (hw : ∀ y, y ∉ ns → m y = none) (hsz : ns.length ≤ 1000) (q : Q () am (upd H d (.ns (put m name b)))) : W2 c k rest env RU b (.ref x) (fun v o => setAttr o name v) am H Q := fun A s E v u o a S r r' => by
  subst r'
  obtain ⟨g1, g2, t, hg⟩ := S.objs _ _ hx
  obtain ⟨_, _, ms, hn, hno, hyes⟩ := S.objs _ _ hd
  have z := ok c.w.params
  simp only [excOk, Bool.and_eq_true, decide_eq_true_eq] at z
  obtain ⟨⟨z1, z2⟩, z3⟩ := z
  obtain ⟨cd, hc, z1⟩ := any_some z1
  rw [Bool.and_eq_true] at z1
  obtain ⟨od, es, ep, hod, hdd, _⟩ := id hn
  refine storeX_some (ns := ns) (S.K o) hg rfl rfl rfl hn (by
    intro y hy
    exact Classical.byContradiction fun w => hy (hno y (hw y w))) hsz hc z1.1 z1.2 z2 z3 fun h' tk hn' kp => ?_
  have tx : TupExt s.heap h' := fun a items ⟨o, e, cc, n, dd⟩ => ⟨o, kp _ _ (by rintro rfl; rw [hod] at e; cases e; rw [hdd] at dd; cases dd) e, cc, n, dd⟩
  refine Post.intro (a := ()) trivial (Ext.of_upd hd tx kp) (S.upd (o' := .ns (put m name b)) hd kp tx ⟨_, hn', fun y hy => ?_, fun y bb hy => ?_⟩) q
  · unfold put at hy; split at hy
    · cases hy
    · rw [if_neg (by assumption)]; exact hno _ hy
  · unfold put at hy; split at hy
    · cases hy; exact ⟨v, if_pos (by assumption), r.mono tx⟩
    · obtain ⟨v', e, rv⟩ := hyes _ _ hy
      exact ⟨v', by rw [if_neg (by assumption)]; exact e, rv.mono tx⟩
end
end Mine
end
section
open PySem PySem.W PySem.Calls PyProof.Rows
set_option maxRecDepth 100000
namespace Mine
section
variable {prog : Program} {w : PySem.World} {A : Around} {h : Heap} {g : Array GenState} {d : Drawn} {t : Nat} {os : OsState}
variable {nm q : Str} {C N : Addr} {bs bm : List Value} {hdct : Bool} {sn : List Str} {sub : List Value} {ab : Bool} {col : Option Bool} {dd : Option Addr} {k0 k1 k2 k3 k5 : Option Value} {B newId initId : String} {bmB : List Value}
theorem exc_callR (F : ExcBaseFacts B newId initId bmB) (T : SameTypes bmB bm) {rest : List Value} {fI : Addr} {oI : Obj} {R : Result → Shared → Prop}
    (hC : h.get? C = some (excClassObj nm q C N bs bm hdct sn sub ab col dd k0 k1 k2 k3 k5 newId)) (hi : PySem.W.Looks (model prog w) h (typeLookup (.ref C) "__init__") (some (.ref fI)))
    (hfI : h.get? fI = some oI) (hfc : oI.cls = .type "function")
    (hq : ∀ h' e, Heap.MadeExcOf h h' e (.ref C) rest →
      wpAny (model prog w) (A.under (.builtin "type.__call__" ⟨.ref C :: rest, []⟩)) (call (.ref fI) (.ref e :: rest)) (fun r s' => r = .none ∧ R (.ok (.ret (.ref e))) s') (fun e s' => R (.error e) s') ⟨h', g, d, t, os⟩) (hrest : rest.length ≤ sizeLine) :
    codeAny (model prog w) A (.call (.ref C) ⟨rest, []⟩) R ⟨h, g, d, t, os⟩ := by
  have f1 := tc_lookup
  have f2 := tc_bind (.ref C)
  have hT : (⟨h, g, d, t, os⟩ : Shared).TypeIs (.ref C) "type" := ⟨_, hC, rfl⟩
  refine codeAny_of_tree ?_
  show wpAny _ _ (callAny (.ref C) _) _ _ _
  repeat (any_goals (first | assumption | with_reducible refine wpAny_loadPart_at hC ?_ | wp_step))
  refine ⟨rfl, ?_⟩
  refine codeAny_call_builtin_at (Code.quiet_builtin _ (by decide +kernel)) entry_typeCall (wpAny_check_type_call_sub hC (exc_type_call F T hC hi hfI hfc (fun h' e hm => ?_) hrest))
  exact hq h' e hm
end
section
variable {c : Cfg} {k : Nat} {H : AH} {as : List AV} {Q : AV → AH → Prop}
inductive ExcC (C : Addr) : Prop
  | mk (nm q N bs bm hdct sn sub ab col dd k0 k1 k2 k3 k5) (_ : bm.contains (.type "BaseException") = true) (_ : SameTypes [.type "Exception", .type "BaseException", .type "object"] bm) (_ : ∀ P, (KK P).lookup C = some (excClassObj nm q C N bs bm hdct sn sub ab col dd k0 k1 k2 k3 k5 "Exception.__new__")) : ExcC C
theorem ExcC.try {C : Addr} (h : ExcC C) : TryCls C := by
  obtain ⟨nm, q, N, bs, bm, hdct, sn, sub, ab, col, dd, k0, k1, k2, k3, k5, h1, _, h2⟩ := h
  exact ⟨nm, q, N, bs, bm, hdct, sn, sub, ab, col, dd, k0, k1, k2, k3, k5, _, h1, h2⟩
/-- a class of exceptions of the text -/
structure ExcCls (C fI : Addr) : Prop where
  cls : ExcC C
  init : ∀ P, findIn (KK P) (.ref C) "__init__" = some (some (.ref fI))
  fn : ∃ oI : Obj, oI.cls = .type "function" ∧ ∀ P, (KK P).lookup fI = some oI
theorem Cl_makeX {C fI : Addr} (F : ExcCls C fI) (hz : as.length ≤ 1000)
    (w : ∀ x, H x = none → Cl c k (.ref fI) (.ref x :: as) (upd H x (.exc C none)) fun a H' => a = .none ∧ Q (.ref x) H') : Cl c (k + 1) (.ref C) as H Q := by
  intro A fs s vs n o a S r
  obtain ⟨hh, g, d, t, os⟩ := s
  dsimp only at S r ⊢
  have X := S.K o
  obtain ⟨nm, q, N, bs, bm, hdct, sn, sub, ab, col, dd, k0, k1, k2, k3, k5, hb, T, hC⟩ := F.cls
  obtain ⟨oI, hfc, hfI⟩ := F.fn
  refine exc_callR PySem.F.excBase_Exception T (X _ _ (hC _)) (looks_findIn X (F.init _)) (X _ _ (hfI _)) hfc (fun h' e M => ?_) (by rw [r.length, sizeLine_eq]; lia)
  obtain ⟨kp, new, t1, he, ht, ht1⟩ := M
  have S1 : St c fs (upd H e (.exc C none)) h' := S.alloc kp new (o := .exc C none) ⟨t1, he⟩
  refine wpAny_call (codeAny_mono (w e (S.fresh new) _ fs ⟨h', g, d, t, os⟩ (.ref e :: vs) n o (a.make C vs) S1 (by exact ⟨_, _, rfl, rfl, r.mono (Keeps.tup kp)⟩)) fun r s' z => ?_)
  obtain ⟨v, rfl, b, H', h'', tk, rfl, rb, x, S', rfl, q⟩ := z
  subst rb
  exact ⟨rfl, _, rfl, .ref e, H', h'', tk, rfl, by simp only [VR], Ext.trans (Ext.of_alloc kp new) x, S', q⟩
theorem sameTypes_ref {a : Addr} {bm : List Value} : SameTypes bm (.ref a :: bm) := fun X b h => by
  rw [List.contains_cons, show (Value.type X == Value.ref a) = false from rfl, Bool.false_or]; exact h
theorem excCls_Name : ExcCls 52 36 where
  cls := ⟨_, _, _, _, [.ref 39, .type "Exception", .type "BaseException", .type "object"], _, _, _, _, _, _, _, _, _, _, _, by decide, sameTypes_ref, fun P => rfl⟩
  init := fun P => rfl
  fn := ⟨_, rfl, fun P => rfl⟩
theorem excCls_Type : ExcCls 64 36 where
  cls := ⟨_, _, _, _, [.ref 39, .type "Exception", .type "BaseException", .type "object"], _, _, _, _, _, _, _, _, _, _, _, by decide, sameTypes_ref, fun P => rfl⟩
  init := fun P => rfl
  fn := ⟨_, rfl, fun P => rfl⟩
end
section
variable {c : Cfg} {k : Nat} {rest : List Frm} {env : Env} {am : AEnv} {H : AH} {h : Heap}
/-- Exception.__init__(e, b) -/
theorem W_excInit {x C : Addr} {od : Option Addr} {b : AV} {Q : AV → AEnv → AH → Prop} (hx : H x = some (.exc C od)) (hm : ∀ P, mroIn (KK P) C (.type "Exception") = some true) (q : Q .none am H) :
    Wn c k rest env RV [.ref x, b] (fun vs => call (.builtin "Exception.__init__") vs) am H Q := fun A s E vs o a S r => by
  obtain ⟨_, _, rfl, rfl, v, _, rfl, rv, rfl⟩ := r
  obtain ⟨hh, g, d, t, os⟩ := s
  dsimp only at S rv ⊢
  obtain ⟨g1, g2, t0, hg⟩ := S.objs _ _ hx
  refine exc_init (S.K o) hg (hm _) fun h' t1 hx' kp => ?_
  have tx : TupExt hh h' := tupExt_of hg (by simp) kp
  have S1 := S.upd (o' := .exc C od) hx kp tx ⟨t1, hx'⟩
  have X1 := Ext.of_upd (es := envs rest env) (o' := .exc C od) hx tx kp (by simp)
  rw [upd_self hx] at S1 X1
  exact Post.intro (s := ⟨hh, g, d, t, os⟩) (a := AV.none) (by simp [RV, VR]) X1 S1 q
/-- a function of a built-in class, by its class -/
theorem WM_type {T id : String} {name : Str} {e : Expr} {r : List Expr} {pos : Pos} {Q : AV → AEnv → AH → Prop} (ht : typeOf (.type T) = pure (.type "type")) (hs : Manifest.isStub T = false) (hf : ∀ P, findCls (KK P) (.type T) (.type "type") name = some (.val (.builtin id))) (hh : handedIn (.builtin id) = true)
    (w : W c k rest env RL (spliced (backTo pos (starEach (e :: r) env))) am H fun as am H => Wn c k rest env RV as (fun vs => call (.builtin id) vs) am H Q)
    (he : starEach (e :: r) env = (false, eval e env) :: starEach r env := by rfl) (hplain : (backTo pos (starEach r env)).any (·.1) = false := by rfl) : WM c k rest env (.at (.type T)) name (e :: r) pos am H Q := fun A s E v pl o a S rv => by
  subst rv
  obtain ⟨mc, F, -⟩ := S.F
  refine PySem.W.method_type F o.K ht hs (hf _) hh ?_
  exact wpAny_mono (W1.run (W_callBuiltin w he hplain) (tk := s.toks + 1) o a S (by simp only [VR]) .refl) (fun _ _ p => p) fun _ _ e => e
end
section
variable {M : Model} {A : Around} {E : Value → Shared → Prop} {env : Env}
variable {nm q : Str} {C N : Addr} {bs bm : List Value} {hdct : Bool} {sn : List Str} {sub : List Value} {ab : Bool} {col : Option Bool} {dd : Option Addr} {k0 k1 k2 k3 k5 : Option Value} {newId : String}
theorem raiseStmt_made {s : Shared} {x : Sem Value} {Q : Flow → Shared → Prop} (hbase : bm.contains (.type "BaseException") = true) (hh : A.handled = none)
    (h : wpAny M A x (fun v s₁ => ∃ e t od, v = .ref e ∧ s₁.heap.get? C = some (excClassObj nm q C N bs bm hdct sn sub ab col dd k0 k1 k2 k3 k5 newId) ∧
      s₁.heap.get? e = some { cls := .ref C, dict := od, data := .fields #[.ref t, .none, .none, .none, .bool false, .none] } ∧ E (.ref e) s₁) E s) :
    wpAny M A (raiseStmt env (some x) none) Q E s := by
  have hcB : (Value.ref C :: bm).contains (.type "BaseException") = true := by rw [List.contains_cons, hbase, Bool.or_true]
  unfold raiseStmt
  refine PySem.wpAny_bind (wpAny_mono h (fun v s₁ h₁ => ?_) fun _ _ x => x)
  obtain ⟨e, t, od, rfl, hC, he, hE⟩ := h₁
  obtain ⟨hp, g, d, tk, os⟩ := s₁
  repeat (first | with_reducible refine wpAny_loadPart_at he ?_ | with_reducible refine wpAny_loadPart_at hC ?_ | (with_reducible refine wpAny_isSubtype_exc hC ?_; rw [hcB]) | wp_step)
  exact wpAny_raiseNew_none hh hE
end
/-- e is ours no more -/
noncomputable def drop (H : AH) (e : Addr) : AH := fun b => if b = e then none else H b
theorem drop_ne {H : AH} {e b : Addr} (n : b ≠ e) : drop H e b = H b := if_neg n
theorem drop_same {H : AH} {e : Addr} : drop H e e = none := if_pos rfl
theorem St.drop {c : Cfg} {fs : List Frm} {H : AH} {h : Heap} (S : St c fs H h) (e : Addr) : St c fs (drop H e) h := by
  refine ⟨S.ground, fun a o z => ?_, S.frs, S.apart⟩
  unfold Mine.drop at z
  split at z
  · cases z
  · exact S.objs a o z
section
variable {c : Cfg} {k : Nat} {rest : List Frm} {env : Env} {am : AEnv} {H : AH} {X : XQ}
theorem WX_Raise {ex : Expr} {pos : Pos} {C fI : Addr} {Q : AF → AEnv → AH → Prop} (F : ExcCls C fI)
    (w : W c k rest env RV (eval ex env) am H fun a am' H' => ∃ e od, a = .ref e ∧ H' e = some (.exc C od) ∧ H e = none ∧ X (.ref C) od (drop H' e)) :
    WX c k rest env RF (exec (.Raise (some ex) none pos) env) am H Q X := fun A s o a S => by
  obtain ⟨nm, q, N, bs, bm, hdct, sn, sub, ab, col, dd, k0, k1, k2, k3, k5, hb, T, hC⟩ := F.cls
  show wpAny (Md c) A (do standAt pos; raiseStmt env (some (do let v ← eval ex env; standAt pos; pure v)) none) _ _ s
  refine PySem.wpAny_bind (wpAny_standAt ?_)
  refine raiseStmt_made (nm := nm) (q := q) (C := C) (N := N) (bs := bs) (hdct := hdct) (sn := sn) (sub := sub) (ab := ab) (col := col) (dd := dd) (k0 := k0) (k1 := k1) (k2 := k2) (k3 := k3) (k5 := k5) (newId := "Exception.__new__") hb a.handled ?_
  refine PySem.wpAny_bind (w.step o a S fun v b am' H' h' tk r x S' q => PySem.wpAny_bind (wpAny_standAt (wpAny_pure ?_)))
  obtain ⟨e, od, rfl, hx, hn, z⟩ := q
  simp only [RV, VR] at r
  obtain ⟨g1, g2, t0, hg⟩ := S'.objs _ _ hx
  have key : ∀ o, s.heap.get? e = some o → free H e → (∀ en ∈ envs rest env, en.locals ≠ e) → False := fun o z n f => by
    have := (x.keep e o z n f).2
    rw [hx, hn] at this; cases this
  refine ⟨e, t0, od, r, S'.K o _ _ (hC _), hg, am', drop H' e, h', h', tk, e, .ref C, od, rfl, rfl, .inl ⟨rfl, _, _, hg, rfl, rfl, rfl, rfl⟩, drop_same, g1, g2, key, ⟨x.tup, fun b ob e1 e2 e3 => ?_⟩, S'.drop e, z⟩
  obtain ⟨y1, y2⟩ := x.keep b ob e1 e2 e3
  refine ⟨y1, ?_⟩
  by_cases eb : b = e
  · subst eb; exact absurd (key ob e1 e2 e3) id
  · rw [drop_ne eb]; exact y2
end
section
variable {prog : Program} {w : PySem.World} {A : Around} {E : Value → Shared → Prop} {h : Heap} {g : Array GenState} {d : Drawn} {t : Nat} {os : OsState} {K : Frag} {x C : Addr} {ox : Obj} {od : Obj} {name : Str} {v : Value}
/-- an attribute of an exception, by its own dict -/
theorem get_exc {expr : Bool} {Q : Value → Shared → Prop} (X : K.In h) (I : InstAt h x ox C (some od)) (hga : findIn K (.ref C) "__getattribute__" = some (some (.builtin "BaseException.__getattribute__"))) (hno : findIn K (.ref C) "__getattr__" = some none)
    (hm : mroIn K C (.type "BaseException") = some true) (hf : findObj K C (some od) name = some (.value v)) (hv : handedIn v = true) (hq : Q v ⟨h, g, d, t + 1, os⟩) : wpAny (model prog w) A (getAttr (.ref x) name expr) Q E ⟨h, g, d, t, os⟩ := by
  have FB := PySem.F.attrBase_Exception
  have hx0 : (expr && onTheHeap (Value.builtin "BaseException.__getattribute__")) = false := by cases expr <;> rfl
  have hx2 : (Value.builtin "BaseException.__getattribute__" == Value.builtin "object.__getattribute__") = false := by decide +kernel
  have hx1 : (onTheHeap (Value.ref C) && Value.builtin "BaseException.__getattribute__" == Value.builtin "object.__getattribute__") = false := by rw [hx2]; rfl
  have L0 := I.type (M := model prog w)
  have L1 := looks_findIn (M := model prog w) X hga
  have L2 := looks_findIn (M := model prog w) X hno
  have L3 := looks_mroIn (M := model prog w) X hm
  have L4 := looks_find (M := model prog w) X I hf
  have f3 := FB.ga.bind (.ref x)
  have ha := F.args_bexc_ga (.ref x) (.str name t)
  have hk : builtinKind "BaseException.__getattribute__" = some .slot := by decide +kernel
  have hsplit : splitId "BaseException.__getattribute__" = some ("BaseException", "__getattribute__") := by decide +kernel
  unfold getAttr getAttrBy
  refine PySem.wpAny_bind (wpAny_mkText (wpAny_holding (PySem.wpAny_bind (L0.here (PySem.wpAny_bind (L1.here ?_))))))
  dsimp only
  rw [hx1]
  show wpAny _ _ (getAttrByItsOwn _ _ _ _ _ _) _ _ _
  unfold getAttrByItsOwn
  refine PySem.wpAny_bind (L2.here (PySem.wpAny_bind (wpAny_attempt (wpAny_holding ?_))))
  unfold callGetattribute
  rw [hx0]
  show wpAny _ _ (boundAndCalled _ _ _) _ _ _
  unfold boundAndCalled
  refine PySem.wpAny_bind (wpAny_of_eq f3 ?_)
  refine wpAny_call (codeAny_call_builtin FB.ga.plain F.entry_bexc_ga ?_)
  simp only [checkBuiltinCall, hk, hsplit]
  have sub : Looks (model prog w) h (isInstance (.ref x) (.type "BaseException")) true := L0.andThen L3
  refine PySem.wpAny_bind (sub.here ?_)
  repeat (any_goals (first | assumption | with_reducible refine Looks.here (s := ⟨h, g, d, t + 1, os⟩) L0 ?_ | with_reducible refine Looks.here (s := ⟨h, g, d, t + 1, os⟩) L4 ?_ | wp_step))
  show wpAny _ _ (handedOut v) _ _ _
  rw [handedOut_of hv]; exact wpAny_pure hq
end
theorem lookIn_ns {h : Heap} {d : Addr} {mc : Str → Option Value} {name : Str} {v : Value} (n : h.Ns d mc) (e : mc name = some v) : ∃ od, h.get? d = some od ∧ lookIn name od = some (some v) := by
  refine hide fun P' hP' => ?_
  obtain ⟨o, es, ep, g, hd, _, hm⟩ := n
  refine hP' ?_
  refine ⟨o, g, ?_⟩
  have := hm name
  rw [e] at this
  unfold nsFind findBy at this
  obtain ⟨en, h1, h2⟩ := Option.map_eq_some_iff.mp this
  unfold lookIn
  rw [hd]
  dsimp only
  rw [Array.find?_toList, h1]
  dsimp only
  rw [h2]
/-- what the class of an exception says of an attribute that its dict alone has -/
noncomputable def excGet (K : Frag) (C : Addr) (name : Str) : Bool := decide (findIn K (.ref C) "__getattribute__" = some (some (.builtin "BaseException.__getattribute__"))) && decide (findIn K (.ref C) "__getattr__" = some none) && decide (mroIn K C (.type "BaseException") = some true) && decide (findIn K (.ref C) name = some none) && hasDictIn K C
section
variable {c : Cfg} {k : Nat} {rest : List Frm} {env : Env} {am : AEnv} {H : AH} {X : XQ}
theorem store_any {A : Around} {E : Value → Shared → Prop} {s : Shared} {x : Str} {a : AV} {v : Value} {Q : Unit → Shared → Prop} (S : St c (⟨env, am⟩ :: rest) H s.heap) (r : VR s.heap a v) (hl : env.kindOf x = some .local)
    (q : ∀ h', (∀ b o, b ≠ env.locals → s.heap.get? b = some o → h'.get? b = some o) → Ext (envs rest env) H s.heap H h' → St c (⟨env, put am x a⟩ :: rest) H h' → Q () { s with heap := h', toks := s.toks + 1 }) : wpAny (Md c) A (storeName env x v) Q E s := by
  obtain ⟨mc, n, m⟩ := S.top.ns
  refine wpAny_storeName_local hl n (fun h' n' sb => ?_) (kind_plain S.top.kind)
  refine hide fun P' hP' => ?_
  obtain ⟨ob, es, ep, g, hd, rr⟩ := n
  refine hP' ?_
  have kp : ∀ b o, b ≠ env.locals → s.heap.get? b = some o → h'.get? b = some o := fun b o z e => (sb.2 b z).trans e
  have x' : TupExt s.heap h' := fun a items ⟨o', e, hc, n', d'⟩ => ⟨o', kp _ _ (by
    rintro rfl
    rw [g] at e; cases e
    rw [hd] at d'; cases d') e, hc, n', d'⟩
  refine q h' kp (Ext.of_names (.head _) x' kp) (S.names kp x' ⟨_, n', fun y b e => ?_⟩)
  unfold put at e
  by_cases z : y = x
  · rw [if_pos z] at e; cases e
    exact ⟨v, if_pos z, r.mono x'⟩
  · rw [if_neg z] at e
    obtain ⟨u, e', ru⟩ := m y b e
    exact ⟨u, (if_neg z).trans e', ru.mono x'⟩
/-- try: body, except C as n: return n.attr -/
theorem W_TryAs {C fI : Addr} {x n attr : Str} {np np2 ap rp hp pos : Pos} {body : List Stmt} {Q : AF → AEnv → AH → Prop} (hn : ∀ P, nsIn (KK P) mainGlobals x = some (some (.ref C))) (F : ExcCls C fI) (hget : ∀ P, excGet (KK P) C attr = true)
    (w : WX c k rest env RF (execs body env) am H Q fun oc od H' => oc = .ref C ∧ ∃ d m b, od = some d ∧ H' d = some (.ns m) ∧ m attr = some b ∧ b.plain = true ∧ ∀ am', Q (.ret b) am' H')
    (hl : env.kindOf n = some .local := by rfl) (hdn : (n == ("__debug__" : Str)) = false := by decide)
    (hf : env.frame = some env.locals := by rfl) (hg : env.globals = mainGlobals := by rfl) (hx : env.kindOf x = some .globalImplicit := by rfl) (hd : (x == ("__debug__" : Str)) = false := by decide)
    (he : ∀ ps, eval (.Attribute (.Name n np2) attr ps) env = (do
      let o ← eval (.Name n np2) env
      standAt ps.atName
      let r ← holding [o] (getAttr o attr true)
      letTemporaryGo (.Name n np2) o r
      pure r) := by intro _; with_unfolding_all rfl) :
    W c k rest env RF (exec (.Try body [.ExceptHandler (some (.Name x np)) (some n) [.Return (some (.Attribute (.Name n np2) attr ap)) rp] hp] [] [] pos) env) am H Q := fun A s E o a S => by
  refine wpAny_Try_except (wpAny_mono (w A s o a S) (fun fl s' p => ?_) fun v s' p => ?_)
  · cases fl with
    | next => exact wpAny_execs_nil p
    | brk => exact p
    | cont => exact p
    | ret => exact p
  · obtain ⟨am', H', h₀, h', tk, e, oc, od, rfl, rfl, air, hH, hG, hfe, hn', x', S', rfl, d, m, b, rfl, hns, hm, hpl, q⟩ := p
    refine Air.note (k := k) (s := { s with heap := h', toks := tk }) hf a.frames S' air fun B h₆ hb hF hu => ?_
    refine flight_noneD (s := { s with heap := h₆, toks := tk }) hF fun h₇ hF' hu' => ?_
    obtain ⟨S₇, -⟩ := land (fs := ⟨env, am'⟩ :: rest) S' hb hF' (hu.trans hu') hH hG hfe
    refine hide fun P' hP' => ?_
    obtain ⟨nm, qn, N, bs, bm, hdct, sn, sub, ab, col, dd, k0, k1, k2, k3, k5, hbase, T, hC⟩ := F.cls
    refine hP' ?_
    refine hide fun P' hP' => ?_
    obtain ⟨_, _, _, oe, vs, T, oT, ts, he7, ⟨hcls, hdict⟩, _⟩ := id hF'
    refine hP' ?_
    refine wpAny_handleBy_cons (codeAny_handlers_test (Name_function_global S₇.top.kind hx (loadGlobal_global (env := env) (by rw [hg]; exact (S₇.T o).g) (mg_of o.K o.T.g (hn _)) ?_) hd)) (by intro q; cases q)
    refine wpAny_excMatches_sub_self (S₇.K o _ _ (hC _)) he7 hcls hbase (codeAny_handlers_suite_as ?_)
    refine flight_noneD (s := { s with heap := h₇, toks := tk }) hF' fun h₈ hF₈ hu₈ => ?_
    obtain ⟨S₈, X₈⟩ := land (fs := ⟨env, am'⟩ :: rest) S' hb hF₈ ((hu.trans hu').trans hu₈) hH hG hfe
    refine hide fun P' hP' => ?_
    obtain ⟨_, _, _, oe8, vs8, T8, oT8, ts8, he8, ⟨hcls8, hdict8⟩, hdt8, _⟩ := id hF₈
    refine hP' ?_
    refine store_any (s := { s with heap := h₈, toks := tk }) (a := .ref e) S₈ (by simp only [VR]) hl fun h₉ kp₉ X₉ S₉ => ?_
    obtain ⟨mc, hmc, hmr⟩ := S₉.top.ns
    obtain ⟨ve, hve, rve⟩ := hmr n (.ref e) (if_pos rfl)
    subst rve
    refine hide fun P' hP' => ?_
    obtain ⟨-, -, mc2, hn1, -, hyes⟩ := S₉.objs _ _ hns
    refine hP' ?_
    obtain ⟨u, hu1, hu2⟩ := hyes _ _ hm
    obtain ⟨odd, hod, hlook⟩ := lookIn_ns hn1.ns hu1
    have z := hget c.w.params
    simp only [excGet, Bool.and_eq_true, decide_eq_true_eq] at z
    have I : InstAt h₉ e oe8 C (some odd) := ⟨kp₉ _ _ (fun z => hfe _ (.head _) z.symm) he8, hcls8, by unfold notCls; rw [hdt8], by rw [hdict8]; exact hod⟩
    refine wpAny_execs_cons (wpAny_Return_some (Attribute_any_ (wpAny_Name (wpAny_loadName_local S₉.top.kind hl hmc hve ?_) hdn) (he _)))
    refine get_exc (S₉.K o) I z.1.1.1.1 z.1.1.1.2 z.1.1.2 (findObj_own z.2 z.1.2 rfl hlook) (hu2.handed hpl) ?_
    refine wpAny_nameGoes hl hmc (kind_plain S₉.top.kind) fun h₁₀ m' n' sb => ?_
    refine hide fun P' hP' => ?_
    obtain ⟨ob, es, ep, g, hd, rr⟩ := id hmc
    refine hP' ?_
    have kp : ∀ b o, b ≠ env.locals → h₉.get? b = some o → h₁₀.get? b = some o := fun b o z e => (sb.2 b z).trans e
    have tx : TupExt h₉ h₁₀ := fun a items ⟨o', e, hc, n', d'⟩ => ⟨o', kp _ _ (by
      rintro rfl
      rw [g] at e; cases e
      rw [hd] at d'; cases d') e, hc, n', d'⟩
    have S₁₀ : St c (⟨env, fun _ => none⟩ :: rest) H' h₁₀ := S₉.names kp tx ⟨_, n', MapR.none⟩
    exact Post.intro (a := AF.ret b) (hu2.mono tx) (((X₈ hn' x').trans X₉).trans (Ext.of_names (.head _) tx kp)) S₁₀ (q _)
end
end Mine
end
section
open PySem PySem.W PySem.Calls PyProof.Rows
namespace Mine
section
variable {c : Cfg} {k : Nat} {rest : List Frm} {env : Env} {α β : Type} {R : Heap → β → α → Prop} {am : AEnv} {H : AH} {h : Heap}
/-- a and b, as a value -/
theorem W_And2 {x y : Expr} {pos : Pos} {Q : AV → AEnv → AH → Prop} (w : W c k rest env RV (eval x env) am H fun a am H => W1 c k rest env RB a truthy am H fun b am H => if b then W c k rest env RV (eval y env) am H Q else Q a am H) :
    W c k rest env RV (eval (.BoolOp .And [x, y] pos) env) am H Q := fun A s E o a S => by
  show wpAny (Md c) A (do
    let v ← eval x env
    standAt pos
    let t ← holding [v] (truthy v)
    match BoolOp.And, t with
    | .And, false | .Or, true => pure v
    | _, _ => eval y env) _ E s
  refine PySem.wpAny_bind (w.step o a S fun v b am' H' h' tk r x' S' w' => PySem.wpAny_bind (wpAny_standAt (PySem.wpAny_bind (wpAny_holding ?_))))
  refine wpAny_mono (w' A { s with heap := h', toks := tk } E v o a S' r) (fun t s₂ p => ?_) fun _ _ e => e
  obtain ⟨t', am₂, H₂, h₂, tk₂, rfl, rt, x₂, S₂, q⟩ := p
  have rt : t = t' := rt
  subst rt
  cases t with
  | false => exact wpAny_pure (Post.intro (R := RV) (a := b) (r.mono x₂.tup) (x'.trans x₂) S₂ q)
  | true => exact W.run (t := eval y env) q o a S₂ (x'.trans x₂)
theorem W_Or2 {x y : Expr} {pos : Pos} {Q : AV → AEnv → AH → Prop} (w : W c k rest env RV (eval x env) am H fun a am H => W1 c k rest env RB a truthy am H fun b am H => if b then Q a am H else W c k rest env RV (eval y env) am H Q) :
    W c k rest env RV (eval (.BoolOp .Or [x, y] pos) env) am H Q := fun A s E o a S => by
  show wpAny (Md c) A (do
    let v ← eval x env
    standAt pos
    let t ← holding [v] (truthy v)
    match BoolOp.Or, t with
    | .And, false | .Or, true => pure v
    | _, _ => eval y env) _ E s
  refine PySem.wpAny_bind (w.step o a S fun v b am' H' h' tk r x' S' w' => PySem.wpAny_bind (wpAny_standAt (PySem.wpAny_bind (wpAny_holding ?_))))
  refine wpAny_mono (w' A { s with heap := h', toks := tk } E v o a S' r) (fun t s₂ p => ?_) fun _ _ e => e
  obtain ⟨t', am₂, H₂, h₂, tk₂, rfl, rt, x₂, S₂, q⟩ := p
  have rt : t = t' := rt
  subst rt
  cases t with
  | true => exact wpAny_pure (Post.intro (R := RV) (a := b) (r.mono x₂.tup) (x'.trans x₂) S₂ q)
  | false => exact W.run (t := eval y env) q o a S₂ (x'.trans x₂)
theorem W_neg_int {x : Int} {Q : AV → AEnv → AH → Prop} (q : Q (.int (-x)) am H) : W1 c k rest env RV (.int x) (unaryOp .USub) am H Q := fun A s E v o a S r => by
  obtain ⟨t, rfl⟩ := r
  exact PyProof.Rows.neg_int (Post.intro (h' := s.heap) (a := AV.int (-x)) (by simp only [RV, VR]; exact ⟨_, rfl⟩) .refl S q)
end
section
variable {c : Cfg} {k : Nat} {rest : List Frm} {env : Env} {α β : Type} {R : Heap → β → α → Prop} {am : AEnv} {H : AH} {h : Heap}
/-- guards: they tell the shape of a tree -/
theorem G_Name {x pos} {Q : AV → AEnv → AH → Prop} (w : W c k rest env RV (eval (.Name x pos) env) am H Q) : W c k rest env RV (eval (.Name x pos) env) am H Q := w
theorem G_CallName {x np args pos} {Q : AV → AEnv → AH → Prop} (w : W c k rest env RV (eval (.Call (.Name x np) args [] pos) env) am H Q) : W c k rest env RV (eval (.Call (.Name x np) args [] pos) env) am H Q := w
theorem G_CallAttr {x np o args pos} {Q : AV → AEnv → AH → Prop} (w : W c k rest env RV (eval (.Call (.Attribute o x np) args [] pos) env) am H Q) : W c k rest env RV (eval (.Call (.Attribute o x np) args [] pos) env) am H Q := w
theorem G_item {as : List AV} {i : Int} {v e : Expr} {Q : AV → AEnv → AH → Prop} (w : W2 c k rest env RV (.tup as) (.int i) (subscriptTail v e) am H Q) : W2 c k rest env RV (.tup as) (.int i) (subscriptTail v e) am H Q := w
end
end Mine
end
section
open PySem PySem.W PySem.Calls PyProof.Rows
set_option maxRecDepth 100000
namespace Mine
theorem entry_updLoop : entryFor table "dict.update.loop" = some Builtin.«dict.update.loop» := entryFor_of_tree (by kernel_rfl)
theorem list_keys_miss : typeLookup (.type "list") "keys" = pure none := by rw [typeLookup_type, builtinLookup_eq_fast]; kernel_rfl
section
variable {prog : Program} {w : PySem.World} {A : Around} {E : Value → Shared → Prop}
theorem getAttrQ_miss_list {s : Shared} {a : Addr} {o : Obj} {xs : Array Value} {k : Nat} {name : Str} {Q : Option Value → Shared → Prop}
    (hx : s.heap.get? a = some o) (hc : o.cls = .type "list") (hdat : o.data = .seq xs k) (hd : o.dict = none) (hmiss : typeLookup (.type "list") name = pure none) (hname : (["__module__", "__name__", "__qualname__", "__doc__", "__annotations__"] : List Str).contains name = false) (hA : A.handled = none)
    (h : ∀ h' tk e, Heap.NewExcOf s.heap h' e "AttributeError" → Q none { s with heap := h', toks := tk }) (hsz : name.length + 100 ≤ sizeLine) :
    wpAny (model prog w) A (getAttr? (.ref a) name) Q E s := by
  obtain ⟨c, dct, dat, sl⟩ := o
  simp only at hc hdat hd
  subst hc hdat hd
  obtain ⟨hp, g, d, tk, os⟩ := s
  have hT : ∀ tk', (⟨hp, g, d, tk', os⟩ : Shared).TypeIs (.ref a) "list" := fun _ => ⟨_, hx, rfl⟩
  have f1 := sub_AttributeError
  have f3 := PySem.F.slot_list_getattribute.lookup
  have f4 := PySem.F.slot_list_getattribute.bind (.ref a)
  have f5 := am_list_getattr_none
  unfold getAttr? getAttrBy? getAttrBy
  repeat (any_goals (first | assumption | exact hT _ | ((with_reducible show wpAny _ _ (call (Value.builtin "list.__getattribute__") _ _) _ _ _); refine call_meets PySem.F.slot_list_getattribute (hT _) am_entry_list_getattribute (PySem.F.args_list_getattribute_2 _ _) (meets_getattribute_miss_list a xs k sl name _ hmiss hname hsz) ⟨hx, hA, fun h' tk' e hx' => ?_⟩) | wp_step))
  obtain ⟨t', u', he⟩ := hx'.there
  show wpAny _ _ (getattributeRaised _ _ _ _ _ _ _) _ _ _
  unfold getattributeRaised
  repeat (any_goals (first | assumption | wp_step))
  exact h _ _ _ hx'.of
/-- the items that are pairs with texts first -/
noncomputable def PairsIn (h : Heap) (items : Array Value) (kvs : List (Str × Value)) : Prop := items.size = kvs.length ∧ ∀ (j : Nat) (p : Str × Value), kvs[j]? = some p → ∃ t tk, items[j]? = some (.ref t) ∧ IsTup h t #[.str p.1 tk, p.2]
theorem code_updLoop {d I l : Addr} {items : Array Value} {kvs : List (Str × Value)} {R : Result → Shared → Prop} (hdI : d ≠ I) (hdl : d ≠ l) (hIl : l ≠ I) (hz : kvs.length ≤ 100000) : ∀ (n i : Nat) (s : Shared) (tk : Tok), n + i = kvs.length → A.handled = none →
    s.heap.IsListIter I l i → s.heap.IsList l items → PairsIn s.heap items kvs → s.heap.DictOf (PySem.strKind prog w) d (merged [] (kvs.take i)) →
    (∀ h' tk', h'.DictOf (PySem.strKind prog w) d (merged [] kvs) → (∀ b o, b ≠ d → b ≠ I → s.heap.get? b = some o → h'.get? b = some o) → R (.ok (.ret .none)) { s with heap := h', toks := tk' }) →
    codeAny (model prog w) A (.builtin "dict.update.loop" ⟨[.ref d, .ref I, .int i tk, .none], []⟩) R s := by
  intro n
  induction n with
  | zero =>
    intro i s tk hi hh hit hl hp hd q
    have hi' : i = kvs.length := by lia
    subst hi'
    refine codeAny_builtin entry_updLoop ?_
    show wpAny _ _ (pyNext (.ref I) >>= _) _ _ _
    refine PySem.wpAny_bind (wpAny_pyNext_list_end hh hit hl (by rw [Array.getElem?_eq_none]; rw [hp.1]; exact Nat.le_refl _) fun h' he => ?_)
    show wpAny _ _ (do Builtin.Dict.addKeywords d []; ret .none) _ _ _
    refine PySem.wpAny_bind (wpAny_pure (wpAny_pure ?_))
    rw [List.take_length] at hd
    refine q h' s.toks (Heap.DictOf.at hd fun o e => he d o hdI e) fun b o _ n e => he b o n e
  | succ n ih =>
    intro i s tk hi hh hit hl hp hd q
    obtain ⟨p, hpi⟩ : ∃ p, kvs[i]? = some p := ⟨_, List.getElem?_eq_getElem (by lia)⟩
    obtain ⟨t, tk2, hti, ht⟩ := hp.2 i p hpi
    refine codeAny_builtin entry_updLoop ?_
    show wpAny _ _ (pyNext (.ref I) >>= _) _ _ _
    refine PySem.wpAny_bind (wpAny_pyNext_list_item hit hl hti fun h' hit' hs' => ?_)
    have kp : ∀ b o, b ≠ I → s.heap.get? b = some o → h'.get? b = some o := fun b o n e => (hs'.2 b n).trans e
    have ntI : ∀ {t xs}, IsTup s.heap t xs → t ≠ I := fun {t xs} ⟨o, e, c, k, dd⟩ => by
      rintro rfl
      obtain ⟨o', e', c', _⟩ := hit
      rw [e] at e'; cases e'; rw [c] at c'; exact absurd c' (by decide)
    have ht' : IsTup h' t #[Value.str p.1 tk2, p.2] := by obtain ⟨o, e, r⟩ := ht; exact ⟨o, kp _ _ (ntI ⟨o, e, r⟩) e, r⟩
    have hd' : h'.DictOf (PySem.strKind prog w) d (merged [] (kvs.take i)) := Heap.DictOf.at hd fun o e => kp d o hdI e
    obtain ⟨o, e, c, nn, dd⟩ := ht'
    refine PySem.wpAny_bind (wpAny_holding (PySem.wpAny_bind (wpAny_tryCatch ?_)))
    unfold Builtin.Dict.pairItems
    refine PySem.wpAny_bind (wpAny_typeOf (T := "tuple") ⟨o, e, c⟩ ?_)
    rw [if_pos (by decide)]
    refine PySem.wpAny_bind (wpAny_seqItems e dd (wpAny_pure ?_))
    show wpAny _ _ (holding [Value.str p.1 tk2, p.2] (dictSet d (Value.str p.1 tk2) p.2)) _ _ _
    refine wpAny_holding (wpAny_dictSet_pairs (strKind_is prog w p.1 tk2) hd' (fun h₂ hd₂ hs₂ => ?_) (by
      have := merged_length_le ([] : List (Str × Value)) (kvs.take i)
      rw [List.length_take, List.length_nil, Nat.zero_add] at this
      rw [sizeLine_eq]; lia))
    refine wpAny_pure ⟨Code.quiet_builtin _ (by decide +kernel), ?_⟩
    have kp2 : ∀ b o, b ≠ d → h'.get? b = some o → h₂.get? b = some o := fun b o n e => (hs₂.2 b n).trans e
    have ntd : ∀ {t xs}, IsTup h' t xs → t ≠ d := fun {t xs} ⟨o, e, c, k, dd⟩ => by
      rintro rfl
      obtain ⟨o', _, _, e', _, c', _⟩ := hd'
      rw [e] at e'; cases e'; rw [dd] at c'; cases c'
    have kpt : ∀ {t xs}, IsTup s.heap t xs → IsTup h₂ t xs := fun {t xs} x => by
      have n1 := ntI x
      obtain ⟨o, e, r⟩ := x
      have e1 := kp _ _ n1 e
      exact ⟨o, kp2 _ _ (ntd ⟨o, e1, r⟩) e1, r⟩
    refine ih (i + 1) _ 0 (by lia) hh ?_ ?_ ⟨hp.1, fun j p hj => ?_⟩ ?_ fun h₃ tk₃ hd₃ k₃ => ?_
    · obtain ⟨o, e, r⟩ := hit'; exact ⟨o, kp2 _ _ hdI.symm e, r⟩
    · obtain ⟨o, e, r⟩ := hl; exact ⟨o, kp2 _ _ hdl.symm (kp _ _ hIl e), r⟩
    · obtain ⟨t, tk, a, b⟩ := hp.2 j p hj; exact ⟨t, tk, a, kpt b⟩
    · rw [merged_take_succ _ _ _ _ hpi]; exact hd₂
    · exact q h₃ tk₃ hd₃ fun b o n1 n2 e => k₃ b o n1 n2 (kp2 b o n1 (kp b o n2 e))
end
theorem pairs_of {h : Heap} {l : List (Str × AV)} {vs : List Value} (r : VRs h (l.map fun p => .tup [.str p.1, p.2]) vs) : ∃ kvs : List (Str × Value), All2 (PairR h) l kvs ∧ vs.length = kvs.length ∧ ∀ (j : Nat) (p : Str × Value), kvs[j]? = some p → ∃ t tk, vs[j]? = some (.ref t) ∧ IsTup h t #[.str p.1 tk, p.2] := by
  induction l generalizing vs with
  | nil =>
    simp only [List.map_nil, VRs] at r; subst r
    exact ⟨[], .nil, rfl, fun j p e => by simp at e⟩
  | cons p l ih =>
    simp only [List.map_cons, VRs, VR] at r
    obtain ⟨v, vs', rfl, ⟨t, ws, rfl, ht, x, ws', rfl, ⟨tk, rfl⟩, y, ws'', rfl, ry, rfl⟩, rr⟩ := r
    obtain ⟨kvs, a, b, d⟩ := ih rr
    refine ⟨(p.1, y) :: kvs, .cons ⟨rfl, ry⟩ a, by simp [b], fun j q e => ?_⟩
    cases j with
    | zero => simp at e; subst e; exact ⟨t, tk, rfl, ht⟩
    | succ j => simp at e; obtain ⟨t', tk', e1, e2⟩ := d j q e; exact ⟨t', tk', by simpa using e1, e2⟩
section
variable {c : Cfg} {k : Nat} {rest : List Frm} {env : Env} {am : AEnv} {H : AH}
/-- dict(b), b a list of pairs with texts first -/
theorem W_dictPairs {b : Addr} {l : List (Str × AV)} {Q : AV → AEnv → AH → Prop} (hb : H b = some (.list (l.map fun p => .tup [.str p.1, p.2]))) (hz : l.length ≤ 1000) (q : ∀ d, H d = none → Q (.ref d) am (upd H d (.dict (mergeA l)))) :
    Wn c k rest env RV [.ref b] (fun vs => call (.type "dict") vs) am H Q := fun A s E vs o a S r => by
  obtain ⟨_, _, rfl, rfl, rfl⟩ := r
  obtain ⟨_, _, ws, n, e, rv⟩ := S.objs _ _ hb
  obtain ⟨kvs, hk, hlen, hpairs⟩ := pairs_of rv
  have hkl : kvs.length ≤ 1000 := by rw [hk.len]; exact hz
  have nD : s.heap.get? s.heap.objs.size = none := Heap.get?_none_of_le (Nat.le_refl _)
  have hm : (s.heap.objs.size == sysModules) = false := beq_eq_false_iff_ne.mpr (Nat.ne_of_gt (modules_low (S.T o).nolimit))
  refine callType_codes (Q₁ := fun obj s₁ => obj = .ref s.heap.objs.size ∧ s₁ = { s with heap := s.heap.push { cls := .type "dict", data := .dict #[] } }) PySem.F.kt_called_dict (PySem.F.kt_typeCall_dict_1 _) PySem.F.entry_dict_init (kt_code_dict_new _ ⟨rfl, rfl⟩) ?_
  rintro obj s₁ ⟨rfl, rfl⟩
  generalize hDn : s.heap.objs.size = D at *
  have k1 : Keeps s.heap (s.heap.push { cls := .type "dict", data := .dict #[] }) := Keeps.push _ _
  have hnew : (s.heap.push { cls := .type "dict", data := .dict #[] }).DictOf (PySem.strKind pw c.w) D [] := hDn ▸ Heap.DictOf.new s.heap
  generalize s.heap.push { cls := .type "dict", data := .dict #[] } = h₁ at k1 hnew ⊢
  refine ⟨hnew.typeIs, PySem.F.args_dict_init_2 _ _, ?_⟩
  unfold Builtin.«dict.__init__»
  refine PySem.wpAny_bind ?_
  unfold Builtin.Dict.selfAndRest
  refine PySem.wpAny_bind (wpAny_notOrdered_dict (s := { s with heap := h₁ }) hnew.typeIs ?_)
  show wpAny _ _ (pure (D, [Value.ref b])) _ _ _
  refine wpAny_pure ?_
  show wpAny _ _ (Builtin.Dict.updateFrom "dict.__init__" D (.ref b) [] .none) _ _ _
  unfold Builtin.Dict.updateFrom
  have e1 := k1 _ _ e
  refine PySem.wpAny_bind (wpAny_typeOf (T := "list") ⟨_, e1, rfl⟩ ?_)
  rw [if_pos (by decide)]
  refine PySem.wpAny_bind (getAttrQ_miss_list (s := { s with heap := h₁ }) e1 rfl rfl rfl list_keys_miss (by decide) a.handled (fun h₂ tk₂ ex hx => ?_) (by decide +kernel))
  rw [if_pos (by rfl)]
  have k2 : Keeps h₁ h₂ := hx.keeps
  have e2 := k2 _ _ e1
  have hL : h₂.IsList b ws.toArray := ⟨_, e2, rfl, n, rfl⟩
  refine PySem.wpAny_bind (wpAny_rule (PySem.wpAny_bind (wpAny_pyIter_list (s := { s with heap := h₂, toks := tk₂ }) hL ?_)))
  dsimp only
  generalize hI : h₂.objs.size = I
  have nI : h₂.get? I = none := Heap.get?_none_of_le (hI ▸ Nat.le_refl _)
  have hit : (h₂.push { cls := .type "list_iterator", data := .fields #[.ref b, .int 0 0] }).IsListIter I b 0 := ⟨_, hI ▸ Heap.get?_push_size _ rfl, rfl, rfl⟩
  have k3 : Keeps h₂ (h₂.push { cls := .type "list_iterator", data := .fields #[.ref b, .int 0 0] }) := Keeps.push _ _
  generalize h₂.push { cls := .type "list_iterator", data := .fields #[.ref b, .int 0 0] } = h₃ at hit k3 ⊢
  have k13 : Keeps s.heap h₃ := (k1.trans k2).trans k3
  have hdI : D ≠ I := by rintro rfl; obtain ⟨_, _, _, g, _⟩ := hnew; rw [k2 _ _ g] at nI; cases nI
  have hdb : D ≠ b := by rintro rfl; rw [e] at nD; cases nD
  have hbI : b ≠ I := by rintro rfl; rw [e2] at nI; cases nI
  refine wpAny_pure ⟨Code.quiet_builtin _ (by decide +kernel), ?_⟩
  refine code_updLoop (items := ws.toArray) hdI hdb hbI (by lia) kvs.length 0 { s with heap := h₃, toks := tk₂ } 0 (Nat.add_zero _) a.handled hit ⟨_, k3 _ _ e2, rfl, n, rfl⟩ ⟨by rw [List.size_toArray]; exact hlen, fun j p hj => ?_⟩ (Heap.DictOf.at hnew fun o g => k3 _ _ (k2 _ _ g)) fun h₄ tk₄ hd₄ k₄ => ⟨rfl, ?_⟩
  · obtain ⟨t, tk, x1, x2⟩ := hpairs j p hj
    exact ⟨t, tk, by simpa using x1, Keeps.tup k13 _ _ x2⟩
  · have k : Keeps s.heap h₄ := fun bb ob g => k₄ bb ob (by rintro rfl; rw [nD] at g; cases g) (by rintro rfl; rw [k2 _ _ (k1 _ _ g)] at nI; cases nI) (k13 _ _ g)
    exact Post.intro (R := RV) (a := .ref D) (by simp only [VR]) (Ext.of_alloc k nD) (S.alloc k nD (o := .dict (mergeA l)) ⟨hm, _, hd₄, (merge_R hk).mono fun _ _ z => z.mono k.tup⟩) (q _ (S.fresh nD))
end
section
variable {c : Cfg} {k : Nat} {rest : List Frm} {env : Env} {α β : Type} {R : Heap → β → α → Prop} {am : AEnv} {H : AH} {h : Heap}
theorem W_mul_int {x y : Int} {Q : AV → AEnv → AH → Prop} (hm : IntMulOk x y) (q : Q (.int (x * y)) am H) : W2 c k rest env RV (.int x) (.int y) (binaryOp .Mult) am H Q := fun A s E v u o a S r r' => by
  obtain ⟨t, rfl⟩ := r; obtain ⟨t', rfl⟩ := r'
  exact PyProof.Rows.mul_int (Post.intro (h' := s.heap) (a := AV.int (x * y)) (by simp only [RV, VR]; exact ⟨_, rfl⟩) .refl S q) hm
theorem W_mod_int {x y : Int} {Q : AV → AEnv → AH → Prop} (hy : y ≠ 0) (q : Q (.int (x.fmod y)) am H) : W2 c k rest env RV (.int x) (.int y) (binaryOp .Mod) am H Q := fun A s E v u o a S r r' => by
  obtain ⟨t, rfl⟩ := r; obtain ⟨t', rfl⟩ := r'
  exact PyProof.Rows.mod_int' hy (Post.intro (h' := s.heap) (a := AV.int (x.fmod y)) (by simp only [RV, VR]; exact ⟨_, rfl⟩) .refl S q)
theorem W_fdiv_int {x y : Int} {Q : AV → AEnv → AH → Prop} (hy : y ≠ 0) (hs : y.natAbs < 1073741824) (q : Q (.int (x.fdiv y)) am H) : W2 c k rest env RV (.int x) (.int y) (binaryOp .FloorDiv) am H Q := fun A s E v u o a S r r' => by
  obtain ⟨t, rfl⟩ := r; obtain ⟨t', rfl⟩ := r'
  exact PyProof.Rows.floordiv_int hy (Post.intro (h' := s.heap) (a := AV.int (x.fdiv y)) (by simp only [RV, VR]; exact ⟨_, rfl⟩) .refl S q) (.inl (PyProof.noPylong_small hs))
theorem W_pow_int {x : Int} {n : Nat} {Q : AV → AEnv → AH → Prop} (hn : n ≤ 1000000) (hx : x.natAbs < 2 ^ 64) (q : Q (.int (x ^ n)) am H) : W2 c k rest env RV (.int x) (.int (n : Int)) (binaryOp .Pow) am H Q := fun A s E v u o a S r r' => by
  obtain ⟨t, rfl⟩ := r; obtain ⟨t', rfl⟩ := r'
  refine PyProof.Rows.pow_int_small (Int.natCast_nonneg n) (by lia) hx (Post.intro (h' := s.heap) (a := AV.int (x ^ n)) ?_ .refl S q)
  simp only [RV, VR]; exact ⟨_, rfl⟩
theorem W_int_int {x : Int} {Q : AV → AEnv → AH → Prop} (q : Q (.int x) am H) : Wn c k rest env RV [.int x] (fun vs => call (.type "int") vs) am H Q := fun A s E vs o a S r => by
  obtain ⟨_, _, rfl, ⟨t, rfl⟩, rfl⟩ := r
  exact call_int_int (Post.here (a := AV.int x) (by simp only [RV, VR]; exact ⟨_, rfl⟩) S q)
theorem W_int_bool {x : Bool} {Q : AV → AEnv → AH → Prop} (q : Q (.int (if x then 1 else 0)) am H) : Wn c k rest env RV [.bool x] (fun vs => call (.type "int") vs) am H Q := fun A s E vs o a S r => by
  obtain ⟨_, _, rfl, rfl, rfl⟩ := r
  exact call_int_bool (Post.intro (h' := s.heap) (a := AV.int (if x then 1 else 0)) (by simp only [RV, VR]; exact ⟨_, rfl⟩) .refl S q)
theorem W_max2 {x y : Int} {Q : AV → AEnv → AH → Prop} (q : Q (.int (if y > x then y else x)) am H) : Wn c k rest env RV [.int x, .int y] (fun vs => call (.builtin "max") vs) am H Q := fun A s E vs o a S r => by
  obtain ⟨_, _, rfl, ⟨t, rfl⟩, _, _, rfl, ⟨u, rfl⟩, rfl⟩ := r
  refine max_two_ints a.handled fun h' tk kp => ?_
  refine Post.intro (h' := h') (a := AV.int (if y > x then y else x)) ?_ (Ext.of_keeps kp) (S.keeps kp) q
  simp only [RV, VR]
  split
  · exact ⟨_, rfl⟩
  · exact ⟨_, rfl⟩
theorem W_str_int {x : Int} {Q : AV → AEnv → AH → Prop} (hx : x.natAbs.log2 < 1920) (q : Q (.str (Str.ofString (toString x))) am H) : Wn c k rest env RV [.int x] (fun vs => call (.type "str") vs) am H Q := fun A s E vs o a S r => by
  obtain ⟨_, _, rfl, ⟨t, rfl⟩, rfl⟩ := r
  exact PySem.P.str_of_int hx (Post.intro (h' := s.heap) (a := AV.str (Str.ofString (toString x))) (by simp only [RV, VR]; exact ⟨_, rfl⟩) .refl S q)
theorem VRs.set {h : Heap} : ∀ {l : List AV} {vs : List Value} {i : Nat} {a : AV} {v : Value}, VRs h l vs → VR h a v → VRs h (l.set i a) (vs.set i v)
  | [], vs, i, _, _, r, _ => by subst r; simp only [List.set_nil, VRs]
  | x :: l, vs, i, a, v, r, ra => by
    obtain ⟨w, vs', rfl, r1, r2⟩ := r
    cases i with
    | zero => simp only [List.set_cons_zero, VRs]; exact ⟨_, _, rfl, ra, r2⟩
    | succ i => simp only [List.set_cons_succ, VRs]; exact ⟨_, _, rfl, r1, r2.set ra⟩
end
section
variable {prog : Program} {w : PySem.World} {A : Around} {E : Value → Shared → Prop} {s : Shared}
theorem mapSeq_listOf {items : Array Value} {n : Nat} (f : Array Value → Array Value) : ∃ n', Obj.mapSeq f (listOf items n) = listOf (f items) n' := ⟨_, rfl⟩
theorem setItem_listOf {l : Addr} {items : Array Value} {n : Nat} {k : Int} {t : Tok} {v : Value} {Q : Unit → Shared → Prop} (ho : s.heap.get? l = some (listOf items n)) (h0 : 0 ≤ k) (hfit : k < 2 ^ 63) (hn : k < items.size)
    (hQ : ∀ h' n', h'.get? l = some (listOf (items.setIfInBounds k.toNat v) n') → Heap.SameBut l s.heap h' → Q () { s with heap := h' }) :
    wpAny (model prog w) A (setItem (.ref l) (.int k t) v) Q E s := by
  have hl : s.heap.IsList l items := ⟨_, ho, rfl, n, rfl⟩
  have hd : (listOf items n).data = .seq items n := rfl
  unfold setItem
  try with_reducible refine wpAny_holding ?_
  refine PySem.wpAny_bind (wpAny_sequenceKey hl.typeIs (by decide) ?_)
  refine PySem.wpAny_bind (wpAny_callSpecial?_slot (name := Str.ofString "__setitem__") hl.typeIs slot_list_setitem
    (wpAny_call_entry slot_list_setitem hl.typeIs entry_list_setitem ?_ (args_list_setitem _ _ _)))
  show wpAny _ _ (Builtin.List.listSubscript? (.int k t) >>= _) _ _ s
  refine PySem.wpAny_bind (wpAny_listSubscript_int (fitsIndex_of h0 hfit) ?_)
  clear hfit
  obtain ⟨j, rfl⟩ := Int.eq_ofNat_of_zero_le h0
  have hj : j < items.size := by lia
  have hx' : items[j]? = some items[j] := Array.getElem?_eq_getElem hj
  show wpAny _ _ ((seqItemAt l j >>= fun r => pure (r.map (j, ·))) >>= _) _ _ s
  refine PySem.wpAny_bind (PySem.wpAny_bind (wpAny_seqItemAt ho hd (wpAny_pure ?_)))
  rw [hx']
  show wpAny _ _ (setSeqItemAt l j v >>= _) _ _ s
  obtain ⟨n', hm⟩ := mapSeq_listOf (items := items) (n := n) (·.setIfInBounds j v)
  have hfin : (s.heap.update l (Obj.mapSeq (·.setIfInBounds j v))).get? l = some (listOf (items.setIfInBounds j v) n') := by
    rw [Heap.get?_update_self _ ho (by rw [hm]; rfl), hm]
  refine PySem.wpAny_bind (wpAny_setSeqItemAt ho hd ?_)
  first
    | exact PySem.wpAny_bind (wpAny_pure (wpAny_pure ⟨.none, rfl, wpAny_pure (hQ _ _ hfin (Heap.SameBut.update ..))⟩))
    | exact wpAny_pure ⟨.none, rfl, wpAny_pure (hQ _ _ hfin (Heap.SameBut.update ..))⟩
end
section
variable {c : Cfg} {k : Nat} {rest : List Frm} {env : Env} {α β : Type} {R : Heap → β → α → Prop} {am : AEnv} {H : AH} {h : Heap}
/-- l[i] = b -/
theorem W_setItem_list {l : Addr} {as : List AV} {i : Int} {b : AV} {Q : Unit → AEnv → AH → Prop} (hl : H l = some (.list as)) (h0 : 0 ≤ i) (hi : i < as.length) (hz : as.length ≤ 1000000) (q : Q () am (upd H l (.list (as.set i.toNat b)))) :
    W3 c k rest env RU b (.ref l) (.int i) (fun v o i => setItem o i v) am H Q := fun A s E v u w o a S r r' r'' => by
  subst r'; obtain ⟨t, rfl⟩ := r''
  obtain ⟨_, _, vs, n, e, rv⟩ := S.objs _ _ hl
  have hlen := rv.length
  refine setItem_listOf e h0 (by lia) (by rw [List.size_toArray]; lia) fun h' n' e' sb => ?_
  have kp : ∀ b o, b ≠ l → s.heap.get? b = some o → h'.get? b = some o := fun b o z e => (sb.2 b z).trans e
  have x' : TupExt s.heap h' := tupExt_of e (by simp) kp
  refine Post.intro (a := ()) (tk := s.toks) trivial (Ext.of_upd hl x' kp) (S.upd hl kp x' (o' := .list (as.set i.toNat b)) ⟨vs.set i.toNat v, n', by rw [e']; simp [W.listOf], ?_⟩) q
  exact (rv.mono x').set (r.mono x')
end
end Mine
end
section
open PySem PySem.W PySem.Calls PyProof.Rows
namespace Mine
theorem leave_N2 {c : Cfg} {A : Around} {k : Nat} {fs : List Frm} {env : Env} {H H₁ : AH} {X : XQ} {s s₁ : Shared} {h₁ : Heap} {tk₁ : Nat} {v : Value} {R : Unit → Shared → Prop} {E : Value → Shared → Prop} (hf : env.frame = some env.locals) (hA : A.frames = some (callEnvs (env :: fs.map (·.env))))
    (hk₁ : ∀ b o, s.heap.get? b = some o → h₁.get? b = some o) (hl : s.heap.get? env.locals = none) (heq : ∀ b o, s.heap.get? b = some o → H₁ b = H b) (p : PostN c fs env H₁ X { s with heap := h₁, toks := tk₁ } v s₁)
    (q : ∀ s', PostF c fs H X s v s' → R () s') : wpAny (Md c) A (leaving env v) R E s₁ := by
  obtain ⟨am', H', h₀, h', tk, e, oc, od, rfl, rfl, air, hH, hG, hfe, hn, x', S', z⟩ := p
  unfold leaving
  refine PySem.wpAny_bind (Air.note (k := k) (s := { s with heap := h', toks := tk }) hf hA S' air fun B h₆ hb hF hu => ?_)
  refine flight_noneD (s := { s with heap := h₆, toks := tk }) hF fun h₇ hF' hu' => ?_
  rw [callEnvs_cons hf] at hF' hb
  have hO := FlyD.out (s := { s with heap := h₇, toks := tk }) hF'
  have T := S'.top
  obtain ⟨mc, ⟨ob, es, ep, g, hd, _⟩, _⟩ := T.ns
  have n1 : H' env.locals = none := by
    cases w : H' env.locals with
    | none => rfl
    | some o => exact absurd rfl ((S'.objs _ _ w).2.1 _ (.head _))
  have n2 : ∀ f ∈ fs, f.env.locals ≠ env.locals := fun f m w => by
    have a := S'.apart
    rw [List.map_cons, List.nodup_cons] at a
    exact a.1 (List.mem_map.mpr ⟨f, m, w⟩)
  obtain ⟨S₂, tx⟩ := S'.leave.hidden n1 n2 T.new (fun items ⟨o, e, _, n, d⟩ => by rw [g] at e; cases e; rw [hd] at d; cases d)
  refine q _ ⟨H', h₀.hide env.locals, h₇, tk, e, oc, od, B, rfl, rfl, fun b o w n m => ?_, hO, fun b o w nf => ?_, hH, hG, fun f m => hfe f (.tail _ m), fun o w n f => ?_, ⟨fun a i t => ?_, fun b o w n f => ?_⟩, S₂, z⟩
  · have w' := Heap.of_hide w
    refine hb b o w' n fun m' => ?_
    rw [List.filterMap_cons, hf] at m'
    rcases List.mem_cons.mp m' with rfl | m'
    · rw [Heap.hide_self] at w; cases w
    · exact m m'
  · exact (hu.trans hu') b o (Heap.of_hide w) nf
  · refine hn o (hk₁ _ _ w) (n.of_eq (heq _ _ w)) fun en m => ?_
    rcases List.mem_cons.mp m with rfl | m
    · rintro rfl; rw [hl] at w; cases w
    · exact f en m
  · exact tx a i (x'.tup a i (by
      obtain ⟨o, e, r⟩ := t
      exact ⟨o, hk₁ _ _ e, r⟩))
  · have nl : b ≠ env.locals := by rintro rfl; rw [hl] at w; cases w
    obtain ⟨e1, e2⟩ := x'.keep b o (hk₁ _ _ w) (n.of_eq (heq _ _ w)) fun e' m => by
      rcases List.mem_cons.mp m with rfl | m
      · exact nl.symm
      · exact f e' m
    exact ⟨(Heap.hide_ne h₀ nl).trans e1, e2.trans (heq _ _ w)⟩
section
variable {c : Cfg} {k : Nat} {H : AH} {as as' : List AV} {Q : AV → AH → Prop} {X : XQ}
/-- a def whose locals are captured, that may raise -/
theorem CX_fnC {fa : Addr} {name qual : Str} {params : Arguments} {body : List Stmt} {scope : Scope} {dV kV doc pm cdv ct oc : Value} {an od : Option Addr} {osl : Array (Option Value)} (xs : List Str)
    (ho : ∀ P, (KK P).lookup fa = some ⟨oc, od, .func (fnOf name qual params body scope dV kV doc pm an cdv ct), osl⟩) (hcd : ∀ P, codeIn (KK P) cdv qual = true)
    (hb : ∀ vs, vs.length = as.length → bindArgs (fnOf name qual params body scope dV kV doc pm an cdv ct) ⟨vs, []⟩ = pure (xs.zip vs))
    (hkind : ∀ n, ∀ x ∈ xs, scope.names.lookup x = some .local ∨ (scope.names.lookup x = some .cell ∧ ((cellsFrom n scope.names []).lookup x).isSome = true)) (hnd : ∀ n, ((cellsFrom n scope.names []).map (·.1)).Nodup)
    (w : ∀ L fs, (∀ p ∈ cellsFrom (L + 1) scope.names [], H p.2 = none) → WX c k fs (envOfC qual scope L fa cdv) RF (execs body (envOfC qual scope L fa cdv)) (bindLA (kOfS scope) (xs.zip as) fun _ => none)
      (cellsH H (bindCA (kOfS scope) (xs.zip as) fun _ => none) (cellsFrom (L + 1) scope.names [])) (fun f _ H' => Q f.out H') X)
    (hco : scope.isCoroutine = false := by rfl) (hgen : scope.isGenerator = false := by rfl) (hk : scope.kind = .function := by rfl) : CX c (k + 1) (.ref fa) as H Q X := by
  intro A fs s vs n o a S r
  have B := hb vs r.length
  refine codeAny_call_function (fd := fnOf name qual params body scope dV kV doc pm an cdv ct) (body := body) a.room (S.K o _ _ (ho _)) rfl hco hgen rfl (codeRec_of (S.K o) (hcd _)) ?_
  rw [B]
  refine wpAny_pure (wpAny_newFunctionEnv_cells hk (fun x m => hkind _ x.1 (List.of_mem_zip m).1) fun env' he s' x => ?_)
  subst he
  obtain ⟨h₁, tk, rfl, kk⟩ := x.done
  have kk : Keeps s.heap h₁ := kk
  refine ⟨((S.T o).nolimit).keeps kk, codeAny_func ?_⟩
  have hl : s.heap.get? s.heap.objs.size = none := Heap.get?_none_of_le (Nat.le_refl _)
  have rz := mapR_zip (y := qual) (xs := xs) r
  have cnew : ∀ p ∈ cellsFrom (s.heap.objs.size + 1) scope.names [], s.heap.get? p.2 = none := fun p m => Heap.get?_none_of_le (Nat.le_of_lt (x.above p.1 p.2 m))
  have S₁ : St c (⟨envOfC qual scope s.heap.objs.size fa cdv, bindLA (kOfS scope) (xs.zip as) fun _ => none⟩ :: fs) H h₁ := by
    refine S.enter n kk hl (Nat.le_refl _) hk ⟨_, x.toInCall.ns, ?_⟩
    exact bindL_R (rz.mono fun _ _ z => z.mono kk.tup) .none
  have cr : ∀ y, cellR h₁ (bindC (kOfS scope) (xs.zip vs) (fun _ => none) y) (bindCA (kOfS scope) (xs.zip as) (fun _ => none) y) := bindC_R (rz.mono fun _ _ z => z.mono kk.tup) fun _ => trivial
  have S₂ : ∀ cs : List (Str × Addr), (∀ p ∈ cs, p ∈ cellsFrom (s.heap.objs.size + 1) scope.names []) → St c (⟨envOfC qual scope s.heap.objs.size fa cdv, bindLA (kOfS scope) (xs.zip as) fun _ => none⟩ :: fs) (cellsH H (bindCA (kOfS scope) (xs.zip as) fun _ => none) cs) h₁ := by
    intro cs
    induction cs with
    | nil => intro _; exact S₁
    | cons p cs ih =>
      intro sub
      have m := sub p (.head _)
      refine (ih fun q m => sub q (.tail _ m)).restore (own := some (p.2, .cell (bindCA (kOfS scope) (xs.zip as) (fun _ => none) p.1))) fun p' e => ?_
      cases e
      have lk : (cellsFrom (s.heap.objs.size + 1) scope.names []).lookup p.1 = some p.2 := lookup_of_mem_nodup (hnd _) m
      have ic := x.cell p.1 p.2 lk
      have out := S.outside (cnew p m)
      refine ⟨?_, out.2.2, fun f mf => ?_⟩
      · have cy := cr p.1
        show ObjR c h₁ p.2 (.cell _)
        revert cy
        generalize bindCA (kOfS scope) (xs.zip as) (fun _ => none) p.1 = oa
        intro cy
        have ic' : h₁.IsCell p.2 (bindC (kOfS scope) (xs.zip vs) (fun _ => none) p.1) := ic
        revert cy ic'
        generalize bindC (kOfS scope) (xs.zip vs) (fun _ => none) p.1 = ov
        intro cy ic'
        cases ov <;> cases oa <;> first | exact ic' | exact cy.elim | exact ⟨_, ic', cy⟩
      · rcases List.mem_cons.mp mf with rfl | mf
        · exact Nat.ne_of_lt (x.above p.1 p.2 m)
        · exact out.2.1 f.env (List.mem_map.mpr ⟨f, mf, rfl⟩)
  have eqc : ∀ {b : Addr} {ob : Obj}, s.heap.get? b = some ob → cellsH H (bindCA (kOfS scope) (xs.zip as) fun _ => none) (cellsFrom (s.heap.objs.size + 1) scope.names []) b = H b := by
    intro b ob e1
    have key : ∀ cs : List (Str × Addr), (∀ p ∈ cs, p.2 ≠ b) → cellsH H (bindCA (kOfS scope) (xs.zip as) fun _ => none) cs b = H b := by
      intro cs
      induction cs with
      | nil => intro _; rfl
      | cons p r ih => intro h; show upd _ _ _ b = _; rw [upd_ne (h p (.head _)).symm]; exact ih fun q m => h q (.tail _ m)
    exact key _ fun p m z => by have := cnew p m; rw [z, e1] at this; cases this
  have a' := a.deeper (e := envOfC qual scope s.heap.objs.size fa cdv) rfl
  refine wpAny_mono (w s.heap.objs.size fs (fun p m => (S.outside (cnew p m)).1) _ ⟨h₁, s.gens, s.drawn, tk, s.os⟩ o a' (S₂ _ fun _ m => m)) (fun fl s' p => ?_) fun v s' p => ?_
  · obtain ⟨f, am', H', h', tk', rfl, rf, y, S', q⟩ := p
    refine .inl ⟨_, rfl, f.out, H', h', tk', rfl, ?_, ⟨fun b items t => y.tup b items (kk.tup b items t), fun b ob e1 e2 ef => ?_⟩, S'.leave, q⟩
    · cases fl <;> cases f <;> first | exact rf | exact rf.elim | (simp only [AF.out, VR])
    · have e3 := eqc e1
      obtain ⟨z1, z2⟩ := y.keep b ob (kk b ob e1) (e2.of_eq e3) fun e' m' => by
        rcases List.mem_cons.mp m' with rfl | m'
        · intro z; rw [← z] at e1; rw [show (envOfC qual scope s.heap.objs.size fa cdv).locals = s.heap.objs.size from rfl, hl] at e1; cases e1
        · exact ef e' m'
      exact ⟨z1, z2.trans e3⟩
  · exact leave_N2 (k := k) (s := s) rfl a'.frames kk hl (fun _ _ e => eqc e) p fun s' p' => .inr ⟨v, rfl, p'⟩
end
section
variable {c : Cfg} {k : Nat} {rest : List Frm} {env : Env} {α β : Type} {R : Heap → β → α → Prop} {am : AEnv} {H : AH} {h : Heap}
theorem sub_tup_true : isSubtype (.type "tuple") (.type "tuple") = pure true := by rw [isSubtype_type]; kernel_rfl
theorem sub_str_tup : isSubtype (.type "str") (.type "tuple") = pure false := by rw [isSubtype_type]; kernel_rfl
theorem sub_bool_tup : isSubtype (.type "bool") (.type "tuple") = pure false := by rw [isSubtype_type]; kernel_rfl
theorem typeOf_tup : typeOf (.type "tuple") = pure (.type "type") := by kernel_rfl
theorem W_isTup {l : List AV} {Q : AV → AEnv → AH → Prop} (q : Q (.bool true) am H) : Wn c k rest env RV [.tup l, .at (.type "tuple")] (fun vs => call (.builtin "isinstance") vs) am H Q := fun A s E vs o a S r => by
  obtain ⟨_, _, rfl, ⟨t, ws, rfl, ht, rw'⟩, _, _, rfl, rfl, rfl⟩ := r
  obtain ⟨ob, e, hc, hd⟩ := ht
  exact call_isinstance (isinstance_true (Tx := "tuple") typeOf_tup sub_tup_true) ⟨⟨ob, e, hc⟩, Post.here (a := AV.bool true) (by simp only [RV, VR]) S q⟩
theorem W_isTup_str {x : Str} {Q : AV → AEnv → AH → Prop} (q : Q (.bool false) am H) : Wn c k rest env RV [.str x, .at (.type "tuple")] (fun vs => call (.builtin "isinstance") vs) am H Q := fun A s E vs o a S r => by
  obtain ⟨_, _, rfl, ⟨t, rfl⟩, _, _, rfl, rfl, rfl⟩ := r
  exact call_isinstance (isinstance_false_str (by decide) typeOf_tup sub_str_tup) (Post.intro (h' := s.heap) (a := AV.bool false) (by simp only [RV, VR]) .refl S q)
theorem W_isTup_bool {x : Bool} {Q : AV → AEnv → AH → Prop} (q : Q (.bool false) am H) : Wn c k rest env RV [.bool x, .at (.type "tuple")] (fun vs => call (.builtin "isinstance") vs) am H Q := fun A s E vs o a S r => by
  obtain ⟨_, _, rfl, rfl, _, _, rfl, rfl, rfl⟩ := r
  exact call_isinstance (isinstance_false_bool (by decide) typeOf_tup sub_bool_tup) (Post.intro (h' := s.heap) (a := AV.bool false) (by simp only [RV, VR]) .refl S q)
end
end Mine
end
section
open PySem PySem.Calls PySem.Builtin
set_option maxRecDepth 100000
namespace Mine
theorem noFill_tuple_mul : fillsNumberSlot (.type "tuple") "mul" = pure false :=
  fillsNumberSlot_seq (id := "tuple.__mul__") (r := some (.builtin "tuple.__rmul__")) PySem.F.slot_tuple_mul.lookup (by decide +kernel) PySem.F.slot_tuple_rmul.lookup (by decide +kernel)
theorem repeat_tuple : seqRepeat? (.type "tuple") = pure (some (.builtin "tuple.__mul__")) := by
  unfold seqRepeat?
  rw [seqSlot_of (T := "tuple") (name := "__mul__") (id := "tuple.__mul__") PySem.F.slot_tuple_mul.lookup (by decide +kernel), seqSlot_of (T := "tuple") (name := "__rmul__") (id := "tuple.__rmul__") PySem.F.slot_tuple_rmul.lookup (by decide +kernel)]
  rfl
theorem tm_int_rmul (a : Int) (t : Tok) (l : Addr) (items : Array Value) (n : Nat) (d : Option Addr) (sl : Array (Option Value)) :
    Meets (Builtin.«int.__rmul__» ⟨[.int a t, .ref l], []⟩) (fun _ R s => s.heap.get? l = some { cls := .type "tuple", dict := d, data := .seq items n, slots := sl } ∧ R (.ok (.ret Value.notImplemented)) s) :=
  .of_wp fun prog w A R s h => by obtain ⟨hp, g, d, tk, os⟩ := s; obtain ⟨hl, h⟩ := h; wp_walk; exact ⟨_, rfl, h⟩
theorem tm_mul (l : Addr) (items : Array Value) (n : Nat) (d : Option Addr) (sl : Array (Option Value)) (x : Int) (u : Tok) (h1 : 2 ≤ x) (h2 : x ≤ 10000) (h3 : items.size = 1) :
    Meets (Builtin.«tuple.__mul__» ⟨[.ref l, .int x u], []⟩) (fun _ R s => s.heap.get? l = some { cls := .type "tuple", dict := d, data := .seq items n, slots := sl } ∧ R (.ok (.ret (Value.ref s.heap.objs.size))) { s with heap := s.heap.push { cls := Value.type "tuple", data := Data.seq (List.foldl (fun x1 x2 => x1 ++ x2) #[] (List.replicate x.toNat items)) } }) :=
  .of_wp fun prog w A R s h => by
    obtain ⟨hp, g, d, tk, os⟩ := s; obtain ⟨hl, h⟩ := h
    have hi : items.isEmpty = false := by
      cases e : items.isEmpty with
      | false => rfl
      | true => rw [Array.isEmpty_iff_size_eq_zero] at e; lia
    have f1 : ¬ ((decide (x < -2 ^ 63) || decide (x ≥ 2 ^ 63)) = true) := by
      rw [Bool.or_eq_true, decide_eq_true_iff, decide_eq_true_iff]; lia
    have f2 : ¬ ((items.isEmpty || x == 1) = true) := by
      rw [hi, Bool.false_or, beq_iff_eq]; lia
    have f3 : ¬ ((decide (x ≤ 0) || items.isEmpty) = true) := by
      rw [hi, Bool.or_false, decide_eq_true_iff]; lia
    have f4 : ¬ ((items.size : Int) * x > (2 ^ 63 - 1) / 8) := by rw [h3]; lia
    have f5 : ¬ (Tuple.tupleTooMany ((items.size : Int) * x) = true) := by
      unfold Tuple.tupleTooMany; rw [h3, decide_eq_true_iff, sizeLine_eq]; lia
    have hsz : (List.foldl (fun x1 x2 => x1 ++ x2) #[] (List.replicate x.toNat items)).size ≤ sizeLine := by
      rw [AutoListH.size_joined, sizeLine_eq, h3]
      simp only [Array.size_empty]; lia
    wp_walk
    rw [if_neg f1]
    wp_walk
    rw [if_neg f2]
    dsimp only
    rw [if_neg f3, if_neg f4, if_neg f5]
    wp_walk
    exact ⟨_, rfl, h⟩
theorem joined1 (v : Value) : ∀ (n : Nat) (acc : Array Value), List.foldl (fun x1 x2 => x1 ++ x2) acc (List.replicate n #[v]) = acc ++ (List.replicate n v).toArray
  | 0, acc => by simp
  | n + 1, acc => by
    rw [List.replicate_succ, List.foldl_cons, joined1 v n]
    apply Array.ext'
    simp [List.replicate_succ]
theorem VRs.replicate {h : Heap} {a : AV} {v : Value} (r : VR h a v) : ∀ n, VRs h (List.replicate n a) (List.replicate n v)
  | 0 => by simp only [List.replicate_zero, VRs]
  | n + 1 => by
    simp only [List.replicate_succ, VRs]
    exact ⟨_, _, rfl, r, VRs.replicate r n⟩
open PySem.W PyProof.Rows in
/-- (a,) * n -/
theorem W_mul_tup {c : Cfg} {k : Nat} {rest : List Frm} {env : Env} {am : AEnv} {H : AH} {a : AV} {n : Nat} {Q : AV → AEnv → AH → Prop} (h1 : 2 ≤ n) (h2 : n ≤ 10000) (q : Q (.tup (List.replicate n a)) am H) : W2 c k rest env RV (.tup [a]) (.int (n : Int)) (binaryOp .Mult) am H Q := fun A s E v u o aa S r r' => by
  obtain ⟨l, vs, rfl, ht, x, _, rfl, rx, rfl⟩ := r; obtain ⟨t', rfl⟩ := r'
  obtain ⟨⟨cls, d, data, sl⟩, ho, hcl, k', hd⟩ := id ht
  simp only at hcl hd
  subst hcl hd
  have hT : ∀ s' : Shared, s'.TypeIs (.int (n : Int) t') "int" := fun s' => typeIs_int s' _ _
  refine wpAny_binaryOp_repeat_ref (T := "tuple") (U := "int") (by decide) ⟨_, ho, rfl⟩ hT noFill_tuple_mul PySem.F.fills_int_mul PySem.F.slot_int_rmul repeat_tuple PySem.F.slot_int_index.lookup
    (call_meets PySem.F.slot_int_rmul (hT _) PySem.F.entry_int_rmul (PySem.F.args_int_rmul_2 _ _) (tm_int_rmul (n : Int) t' l [x].toArray k' d sl)
      ⟨ho, rfl, ⟨_, ho, rfl⟩, call_meets PySem.F.slot_tuple_mul ⟨_, ho, rfl⟩ PySem.F.entry_tuple_mul (PySem.F.args_tuple_mul_2 _ _)
        (tm_mul l [x].toArray k' d sl (n : Int) t' (by lia) (by lia) rfl)
        ⟨ho, ?_⟩⟩)
  refine Post.intro (R := RV) (a := .tup (List.replicate n a)) (tk := s.toks) ?_ (Ext.of_keeps (Keeps.push _ _)) (S.keeps (Keeps.push _ _)) q
  refine ⟨s.heap.objs.size, List.replicate n x, rfl, ?_, VRs.replicate (rx.mono (Keeps.push _ _).tup) n⟩
  have e : List.foldl (fun x1 x2 => x1 ++ x2) #[] (List.replicate (n : Int).toNat #[x]) = (List.replicate n x).toArray := by
    rw [Int.toNat_natCast, joined1]; simp
  exact e ▸ IsTup.new _ _
end Mine
end
section
open PySem PySem.W PySem.Calls PyProof.Rows
namespace Mine
set_option hygiene false in
local macro_rules | `(tactic| walk_at "s") => `(tactic| first
  | with_reducible first | refine W_execs_nil ?_ | refine W_execs_cons ?_ | refine W_Return ?_ | refine W_If ?_ | refine W_str ?_ | refine W_int ?_ | refine W_none ?_ | refine W_bool ?_ | refine W_Subscript ?_ | refine W_IfExp ?_ | refine W_isTrue_Not ?_ | refine W_isTrue_BoolOp ?_ | refine W_and_nil ?_ | refine W_and_cons ?_ | refine W_or_nil ?_ | refine W_or_cons ?_ | refine W_Tuple ?_ | refine W_List ?_ | refine W_BinOp ?_ | refine W_items_nil ?_ | refine W_truthy_bool ?_ | refine W_eq_str ?_ | refine W_ne_str ?_ | refine W_pairs0 ?_ | refine W_pairs1 ?_ | refine W_eq_int ?_ | refine W_lt_int ?_ | refine W_gt_int ?_ | refine W_ge_int ?_ | refine W_add_int ?_ | refine W_sub_int ?_ | refine W_UnaryOp ?_ | refine W_neg_int ?_ | refine W_is_none ?_ | refine W_isNot_none ?_ | refine Then_next ?_ | refine Then_ret ?_ | refine LoopQ_ret ?_ | refine ThenX_next ?_ | refine ThenX_ret ?_ | refine hQ' _ _ _ ?_
  | (with_reducible first | refine S_Assign_Name ?_ ?_ ?_ | refine S_Expr ?_ ?_ ?_); rfl; rfl
  | (with_reducible first | refine S_Assign_Attribute ?_ ?_ | refine S_Assign_Subscript ?_ ?_ | refine S_isTrue_Name ?_ ?_ | refine S_isTrue_Subscript ?_ ?_ | refine S_isTrue_Attribute ?_ ?_ | refine S_isTrue_Call ?_ ?_ | refine S_items_cons ?_ ?_ | refine S_newTuple ?_ ?_); rfl
  | (with_reducible first | refine S_Attribute ?_ ?_ | refine S_Compare ?_ ?_ | refine S_isTrue_Compare ?_ ?_); with_unfolding_all rfl
  | (with_reducible refine G_Name ?_); (with_reducible apply S_local); rfl; decide; (first | rfl | assumption)
  | (with_reducible refine G_CallName ?_); (with_reducible apply S_CallDef); rfl; rfl; decide; rfl; rfl; rfl; (intro _; rfl); (intro _; rfl)
  | (with_reducible refine G_CallName ?_); (with_reducible apply S_CallDef0); rfl; rfl; decide; rfl; (intro _; rfl); (intro _; rfl)
  | (with_reducible refine G_CallAttr ?_); (with_reducible apply S_MethodCall); rfl
  | (with_reducible refine G_item ?_); (with_reducible apply S_item); decide; decide; (intro _ _; with_unfolding_all rfl); rfl)
section
variable {c : Cfg} {k : Nat} {rest : List Frm} {env : Env} {am : AEnv} {H : AH}
theorem WI.mono {target iter : Expr} {Q Q' : List AV → Option (Addr × AO) → AEnv → AH → Prop} (w : WI c k rest env target iter am H Q) (m : ∀ as own am H, Q as own am H → Q' as own am H) : WI c k rest env target iter am H Q' := fun A s E o a S =>
  wpAny_mono (w A s E o a S) (fun xv s₁ h => wpAny_mono h (fun it s₂ p => by
    obtain ⟨I, as, own, am', H', h', tk, e1, e2, x, S', Wk, q⟩ := p
    exact ⟨I, as, own, am', H', h', tk, e1, e2, x, S', Wk, m _ _ _ _ q⟩) fun _ _ e => e) fun _ _ e => e
theorem W_ForH {target iter : Expr} {body : List Stmt} {pos : Pos} {Q : AF → AEnv → AH → Prop} (J : List AV → Option (Addr × AO) → Nat → AEnv → AH → Prop)
    (w : WI c k rest env target iter am H fun as own am H => J as own 0 am H ∧
      (∀ i a am H, as[i]? = some a → J as own i am H → ∀ Q' : AF → AEnv → AH → Prop, (∀ f am H, LoopQ (J as own (i + 1)) (fun f am H => Q f am (restore own H)) f am H → Q' f am H) →
        W1 c k rest env RU a (fun v => assign target env v) am H fun _ am H => W c k rest env RF (execs body env) am H Q') ∧
      ∀ am H, J as own as.length am H → Q .next am (restore own H))
    (hs : ∀ x, foldedSetIterable iter env x = pure x := by intro _; rfl) : W c k rest env RF (exec (.For target iter body [] pos) env) am H Q :=
  W_For J (w.mono fun _ _ _ _ z => ⟨z.1, fun i a am H e j => z.2.1 i a am H e j _ fun _ _ _ z => z, z.2.2⟩) hs
end

section
variable {c : Cfg} {k : Nat} {H : AH}
set_option maxRecDepth 100000 in
theorem c_Reached {told steps : AV} {tw : AV} {x dx : Addr} {Q : AV → AH → Prop} (hx : H x = some (.inst 84 dx)) (hd : H dx = some (.idict [])) 
   (q : Q .none (upd H dx (.idict [("told", told), ("steps", steps), ("is_twice", tw)]))) :
    Cl c (k + 1) (.ref 81) [.ref x, told, steps, tw] H Q := by
  refine Cl_fnG (as' := [.ref x, told, steps, tw]) ["self", "told", "steps", "is_twice"] (fun P => rfl) (fun P => rfl) (fun s vs X r => ⟨vs, ?_, r⟩) ?_ ?_ (fun L fs => ?_)
  · obtain ⟨a, b, d, e, rfl⟩ := len4 r.length; exact BindsTo.of_defaults rfl (X 74 _ rfl) rfl rfl rfl
  · decide
  · decide
  · have nx : x ≠ dx := by rintro rfl; rw [hd] at hx; cases hx
    refine W_execs_cons ?_
    repeat walk_at "s"
    refine W_setAttr hx hd (fun P => rfl) ?_
    repeat walk_at "s"
    refine W_setAttr (by rw [upd_ne nx]; exact hx) (upd_same ..) (fun P => rfl) ?_
    repeat walk_at "s"
    refine W_setAttr (by rw [upd_ne nx, upd_ne nx]; exact hx) (upd_same ..) (fun P => rfl) ?_
    repeat walk_at "s"
    rw [upd_upd, upd_upd]
    exact q
/-- Reached(told, steps, is_twice) -/
theorem c_mkReached {told steps : AV} {tw : AV} {Q : AV → AH → Prop} (q : ∀ x dx, H x = none → H dx = none → x ≠ dx → Q (.ref x) (upd (upd H x (.inst 84 dx)) dx (.idict [("told", told), ("steps", steps), ("is_twice", tw)]))) :
    Cl c (k + 2) (.ref 84) [told, steps, tw] H Q := by
  refine Cl_make (fI := 81) (fun P => rfl) (fun P => rfl) (fun P => rfl) fun x dx hx hd nx => ?_
  refine c_Reached (upd_same ..) (by rw [upd_ne nx.symm, upd_same]) ⟨rfl, ?_⟩
  rw [upd_over]; exact q x dx hx hd nx
set_option maxRecDepth 100000 in
theorem c_own_methods {w : Addr} {M : Mdl} {p : Str} {s : Strct} {Q : AV → AH → Prop} (V : WorldAt H w M) (hp : M p = some s) (q : ∀ md, H md = some (.dict s.dict) → Q (.ref md) H) :
    Cl c (k + 1) (.ref 102) [.ref w, named p] H Q := by
  obtain ⟨dx, nd, l, F, e1, e2, e3, e6, e4, e5⟩ := V
  obtain ⟨r, hr, dx', md, a, b, f1, f2, f3⟩ := e5 p s hp
  refine Cl_fn ["world", "told"] (fun P => rfl) (fun P => rfl) (fun vs h => ?_) ?_ ?_ (fun L fs => ?_)
  · obtain ⟨a, b, rfl⟩ := len2 h; rfl
  · decide
  · decide
  · refine W_execs_cons ?_
    repeat walk_at "s"
    refine ifT (by decide) ?_
    repeat walk_at "s"
    refine W_attr e1 e2 e3 (fun P => rfl) rfl ?_
    repeat walk_at "s"
    refine W_item_dict e4 hr ?_
    refine W_attr f1 f2 rfl (fun P => rfl) rfl ?_
    repeat walk_at "s"
    exact q md f3
set_option maxRecDepth 100000 in
theorem c_without_pointer {x : Str} {y : AV} {l : List AV} {Q : AV → AH → Prop} (q : Q (if decide (x = "ptr") then y else .tup (.str x :: y :: l)) H) :
    Cl c (k + 1) (.ref 95) [.tup (.str x :: y :: l)] H Q := by
  refine Cl_fn ["told"] (fun P => rfl) (fun P => rfl) (fun vs h => ?_) ?_ ?_ (fun L fs => ?_)
  · obtain ⟨a, rfl⟩ := len1 h; rfl
  · decide
  · decide
  · refine W_execs_cons ?_
    repeat walk_at "s"
    cases e : decide (x = Str.ofString "ptr") with
    | true =>
      rw [show (decide (x = "ptr")) = true from e, if_pos rfl] at q
      refine ifT rfl ?_
      repeat walk_at "s"
      exact q
    | false =>
      rw [show (decide (x = "ptr")) = false from e, if_neg Bool.false_ne_true] at q
      refine ifF rfl ?_
      repeat walk_at "s"
      exact q
end
section
variable {c : Cfg} {k : Nat} {H : AH}
set_option maxRecDepth 100000 in
theorem c_base_of {w : Addr} {M : Mdl} {p : Str} {s : Strct} {Q : AV → AH → Prop} (V : WorldAt H w M) (hp : M p = some s) (q : Q (under s) H) :
    Cl c (k + 1) (.ref 240) [.ref w, named p] H Q := by
  obtain ⟨dx, nd, l, F, e1, e2, e3, e6, e4, e5⟩ := V
  obtain ⟨r, hr, dx', md, a, b, f1, f2, f3⟩ := e5 p s hp
  refine Cl_fn ["self", "told"] (fun P => rfl) (fun P => rfl) (fun vs h => ?_) ?_ ?_ (fun L fs => ?_)
  · obtain ⟨a, b, rfl⟩ := len2 h; rfl
  · decide
  · decide
  · refine W_execs_cons ?_
    let J1 : JW := fun n am H' => H' = H ∧ ((n = 1 ∧ am = amZ ["self", "told"] [.ref w, named p]) ∨ (n = 0 ∧ am = put (put (amZ ["self", "told"] [.ref w, named p]) "row" (.ref r)) "told" (under s)))
    refine W_While J1 1 ⟨rfl, .inl ⟨rfl, rfl⟩⟩ ?_
    rintro n am H' ⟨rfl, ⟨rfl, rfl⟩ | ⟨rfl, rfl⟩⟩
    · repeat walk_at "s"
      refine ifT (by decide) ?_
      repeat walk_at "s"
      refine W_attr e1 e2 e3 (fun P => rfl) rfl ?_
      refine W_notIn_dict e4 ?_
      repeat walk_at "s"
      refine ifF (by rw [hr]; rfl) ?_
      repeat walk_at "s"
      refine W_attr e1 e2 e3 (fun P => rfl) rfl ?_
      repeat walk_at "s"
      refine W_item_dict e4 hr ?_
      repeat walk_at "s"
      refine W_attr f1 f2 rfl (fun P => rfl) rfl ?_
      repeat walk_at "s"
      try (refine W_is_none ?_)
      repeat walk_at "s"
      refine ifF rfl ?_
      repeat walk_at "s"
      refine W_attr f1 f2 rfl (fun P => rfl) rfl ?_
      repeat walk_at "s"
      exact ⟨0, Nat.zero_lt_one, rfl, .inr ⟨rfl, rfl⟩⟩
    · repeat walk_at "s"
      refine ifF (by decide) ?_
      repeat walk_at "s"
      exact q
end
section
variable {c : Cfg} {k : Nat} {H : AH}
set_option maxRecDepth 100000 in
set_option maxHeartbeats 1000000 in
theorem c_embedded_in {w r0 : Addr} {M : Mdl} {r : Rch} {s : Strct} {Q : AV → AH → Prop} (V : WorldAt H w M) (hr : ReachedAt H r0 r) (hp : M r.path = some s) (hz : s.fields.length ≤ 1000) (hs : r.steps.length ≤ 100000)
    (q : ∀ fd L H', Sub H H' → H fd = none → H' fd = some (.list (L.map fun p : Addr × Addr => .ref p.1)) → All2 (NR H H') L (embFrom r s.fields 0) → (L.map (·.2)).Nodup → (∀ p ∈ L, p.2 ≠ fd) → Q (.ref fd) H') :
    Cl c (k + 3) (.ref 114) [.ref w, .ref r0] H Q := by
  have V' := V
  obtain ⟨dx, nd, l, F, e1, e2, e3, e6, e4, e5⟩ := V
  obtain ⟨rx, g1, g2⟩ := hr
  refine Cl_fn ["world", "reached"] (fun P => rfl) (fun P => rfl) (fun vs h => ?_) ?_ ?_ (fun L fs => ?_)
  · obtain ⟨a, b, rfl⟩ := len2 h; rfl
  · decide
  · decide
  · refine W_execs_cons ?_
    refine W_Assign_Swap ["base", "found"] ?_
    repeat walk_at "s"
    refine WM_def (f := 240) e1 e2 e6 (fun P => rfl) (fun P => rfl) ?_
    repeat walk_at "s"
    refine W_attr g1 g2 rfl (fun P => rfl) rfl ?_
    repeat walk_at "s"
    refine c_base_of V' hp ?_
    repeat walk_at "s"
    refine W_newList fun fd nfd => ?_
    repeat walk_at "s"
    refine ⟨_, rfl, rfl, ?_⟩
    repeat walk_at "s"
    refine ifT (by decide) ?_
    repeat walk_at "s"
    let J1 : JF := fun as own i am H' => A5 (as = enumA (s.fields.map Fld.av) 0) (own = none) (am "reached" = some (.ref r0)) (am "found" = some (.ref fd)) (∃ L : List (Addr × Addr), A5 (Sub H H') (H' fd = some (.list (L.map fun p => .ref p.1))) (All2 (NR H H') L (embFrom r (s.fields.take i) 0)) ((L.map (·.2)).Nodup) (∀ p ∈ L, p.2 ≠ fd))
    refine W_ForH J1 (WI_enumT ?_)
    repeat walk_at "s"
    refine ⟨_, rfl, ⟨rfl, rfl, rfl, rfl, [], Sub.upd nfd, upd_same .., .nil, List.nodup_nil, by simp⟩, ?_, ?_⟩
    · rintro i a am H' ha ⟨-, -, m1, m2, L, S, hfd, hL, nd, nfd'⟩
      intro Q' hQ'
      obtain ⟨b, hb, rfl⟩ := enumA_inv ha
      obtain ⟨f, hf, rfl⟩ := Option.map_eq_some_iff.mp (List.getElem?_map .. ▸ hb)
      have hlen : L.length ≤ i := by
        rw [← hL.len]
        exact Nat.le_trans (embFrom_le ..) (by rw [List.length_take]; exact Nat.min_le_left _ _)
      have hi : i ≤ 1000 := by have := (List.getElem?_eq_some_iff.mp hf).1; lia
      cases f with
      | plain n ty =>
        refine W_aTup (W_ino_cons (W_aName (W_ino_cons (W_aName (W_ino_nil ?_)))))
        repeat walk_at "s"
        refine ifF rfl ?_
        repeat walk_at "s"
        refine ⟨rfl, rfl, m1, m2, L, S, hfd, ?_, nd, nfd'⟩
        rw [take_next hf, embFrom_append]
        simpa [embFrom] using hL
      | emb n ptr p =>
        refine W_aTup (W_ino_cons (W_aName (W_ino_cons (W_aName (W_ino_nil ?_)))))
        repeat walk_at "s"
        refine ifT rfl ?_
        repeat walk_at "s"
        rw [embTy_ptr]
        repeat walk_at "s"
        refine W_attr (S _ _ g1) (S _ _ g2) rfl (fun P => rfl) rfl ?_
        repeat walk_at "s"
        refine W_tupAdd ?_ (by simp only [List.length_cons, List.length_nil]; lia)
        repeat walk_at "s"
        refine WM_listM hfd slot_list_append (by kernel_rfl) ?_
        repeat walk_at "s"
        refine c_without_pointer ?_
        repeat walk_at "s"
        refine W_attr (S _ _ g1) (S _ _ g2) rfl (fun P => rfl) rfl ?_
        repeat walk_at "s"
        refine c_mkReached fun x dx hx hdx nx => ?_
        repeat walk_at "s"
        rw [embTy_wo]
        have h1 : upd (upd H' x (.inst 84 dx)) dx (.idict [("told", named p), ("steps", .tup (r.steps ++ [.tup [.int i, .bool ptr]])), ("is_twice", .bool r.tw)]) fd = some (.list (L.map fun p => .ref p.1)) :=
          upd_old (by rw [upd_ne nx.symm]; exact hdx) (upd_old hx hfd)
        refine W_append h1 (by rw [List.length_map]; lia) ?_
        repeat walk_at "s"
        have S1 : Sub H (upd (upd H' x (.inst 84 dx)) dx (.idict [("told", named p), ("steps", .tup (r.steps ++ [.tup [.int i, .bool ptr]])), ("is_twice", .bool r.tw)])) := (S.add hx).add (by rw [upd_ne nx.symm]; exact hdx)
        have S2 : Sub H' (upd (upd H' x (.inst 84 dx)) dx (.idict [("told", named p), ("steps", .tup (r.steps ++ [.tup [.int i, .bool ptr]])), ("is_twice", .bool r.tw)])) := ((Sub.refl _).add hx).add (by rw [upd_ne nx.symm]; exact hdx)
        refine ⟨rfl, rfl, m1, m2, L ++ [(x, dx)], S1.over nfd, by rw [upd_same, List.map_append]; rfl, ?_, ?_, ?_⟩
        · rw [take_next hf, embFrom_append]
          refine (hL.mono fun _ _ z => (z.sub S2).over h1).append ?_
          have e0 : 0 + (s.fields.take i).length = i := by rw [List.length_take]; have := (List.getElem?_eq_some_iff.mp hf).1; lia
          rw [e0]
          refine .cons (NR.over ⟨by rw [upd_ne nx, upd_same], by rw [upd_same]; rfl, S.none hx, S.none hdx⟩ h1) .nil
        · rw [List.map_append, List.nodup_append]
          refine ⟨nd, by simp, ?_⟩
          intro a ma b mb z
          obtain ⟨p', mp, rfl⟩ := List.mem_map.mp ma
          obtain ⟨r', _, _, z2, _, _⟩ := hL.memL mp
          have : b = dx := by simpa using mb
          rw [z, this, hdx] at z2; cases z2
        · intro p' mp
          rcases List.mem_append.mp mp with mp | mp
          · exact nfd' p' mp
          · have : p' = (x, dx) := by simpa using mp
            subst this
            rintro rfl
            rw [hdx] at hfd; cases hfd
    · rintro am H' ⟨-, -, m1, m2, L, S, hfd, hL, nd, nfd'⟩
      repeat walk_at "s"
      refine q fd L H' S nfd hfd ?_ nd nfd'
      rw [enumA_length, List.length_map, List.take_length] at hL
      exact hL
end
section
variable {c : Cfg} {k : Nat} {H : AH}
set_option maxRecDepth 100000 in
set_option maxHeartbeats 1000000 in
theorem c_start_named {w : Addr} {M : Mdl} {p : Str} {s : Strct} {Q : AV → AH → Prop} (V : WorldAt H w M) (hp : M p = some s) (q : Q (.tup [named p, .bool false]) H) :
    Cl c (k + 2) (.ref 149) [.ref w, named p] H Q := by
  have V' := V
  obtain ⟨dx, nd, l, F, e1, e2, e3, e6, e4, e5⟩ := V
  refine Cl_fn ["world", "told"] (fun P => rfl) (fun P => rfl) (fun vs h => ?_) ?_ ?_ (fun L fs => ?_)
  · obtain ⟨a, b, rfl⟩ := len2 h; rfl
  · decide
  · decide
  · refine W_execs_cons ?_
    repeat walk_at "s"
    refine ifF (by decide) ?_
    repeat walk_at "s"
    refine ifT (by decide) ?_
    repeat walk_at "s"
    refine WM_def (f := 240) e1 e2 e6 (fun P => rfl) (fun P => rfl) ?_
    repeat walk_at "s"
    refine c_base_of V' hp ?_
    repeat walk_at "s"
    refine ifT (by decide) ?_
    repeat walk_at "s"
    refine ifF (by decide) ?_
    refine ifF (by rfl) ?_
    repeat walk_at "s"
    exact q
set_option maxRecDepth 100000 in
set_option maxHeartbeats 1000000 in
theorem c_start_ptr {w : Addr} {M : Mdl} {p : Str} {s : Strct} {Q : AV → AH → Prop} (V : WorldAt H w M) (hp : M p = some s) (q : Q (.tup [named p, .bool false]) H) :
    Cl c (k + 2) (.ref 149) [.ref w, .tup [.str "ptr", named p]] H Q := by
  have V' := V
  obtain ⟨dx, nd, l, F, e1, e2, e3, e6, e4, e5⟩ := V
  refine Cl_fn ["world", "told"] (fun P => rfl) (fun P => rfl) (fun vs h => ?_) ?_ ?_ (fun L fs => ?_)
  · obtain ⟨a, b, rfl⟩ := len2 h; rfl
  · decide
  · decide
  · refine W_execs_cons ?_
    repeat walk_at "s"
    refine ifT (by decide) ?_
    repeat walk_at "s"
    refine WM_def (f := 240) e1 e2 e6 (fun P => rfl) (fun P => rfl) ?_
    repeat walk_at "s"
    refine c_base_of V' hp ?_
    repeat walk_at "s"
    refine W_in_tup (ys := ["ptr", "interface"]) ?_
    repeat walk_at "s"
    refine ifF (by decide) ?_
    repeat walk_at "s"
    exact q
set_option maxRecDepth 100000 in
theorem c_Reached2 {told steps : AV} {x dx : Addr} {Q : AV → AH → Prop} (hx : H x = some (.inst 84 dx)) (hd : H dx = some (.idict [])) 
   (q : Q .none (upd H dx (.idict [("told", told), ("steps", steps), ("is_twice", .bool false)]))) :
    Cl c (k + 1) (.ref 81) [.ref x, told, steps] H Q := by
  refine Cl_fnG (as' := [.ref x, told, steps, .bool false]) ["self", "told", "steps", "is_twice"] (fun P => rfl) (fun P => rfl) (fun s vs X r => ⟨vs ++ [.bool false], ?_, VRs.append r (by exact ⟨_, _, rfl, rfl, rfl⟩)⟩) ?_ ?_ (fun L fs => ?_)
  · obtain ⟨a, b, d, rfl⟩ := len3 r.length; exact BindsTo.of_defaults rfl (X 74 _ rfl) rfl rfl rfl
  · decide
  · decide
  · have nx : x ≠ dx := by rintro rfl; rw [hd] at hx; cases hx
    refine W_execs_cons ?_
    repeat walk_at "s"
    refine W_setAttr hx hd (fun P => rfl) ?_
    repeat walk_at "s"
    refine W_setAttr (by rw [upd_ne nx]; exact hx) (upd_same ..) (fun P => rfl) ?_
    repeat walk_at "s"
    refine W_setAttr (by rw [upd_ne nx, upd_ne nx]; exact hx) (upd_same ..) (fun P => rfl) ?_
    repeat walk_at "s"
    rw [upd_upd, upd_upd]
    exact q
theorem c_mkReached2 {told steps : AV} {Q : AV → AH → Prop} (q : ∀ x dx, H x = none → H dx = none → x ≠ dx → Q (.ref x) (upd (upd H x (.inst 84 dx)) dx (.idict [("told", told), ("steps", steps), ("is_twice", .bool false)]))) :
    Cl c (k + 2) (.ref 84) [told, steps] H Q := by
  refine Cl_make (fI := 81) (fun P => rfl) (fun P => rfl) (fun P => rfl) fun x dx hx hd nx => ?_
  refine c_Reached2 (upd_same ..) (by rw [upd_ne nx.symm, upd_same]) ⟨rfl, ?_⟩
  rw [upd_over]; exact q x dx hx hd nx
set_option maxRecDepth 100000 in
set_option maxHeartbeats 1000000 in
theorem c_Levels {w : AV} {p : Str} {x dx : Addr} {Q : AV → AH → Prop} (hx : H x = some (.inst 138 dx)) (hd : H dx = some (.idict []))
    (q : ∀ hl sd r rx H', Sub H (upd H' dx (.idict [])) → H' x = some (.inst 138 dx) → H' dx = some (.idict [("world", w), ("here", .ref hl), ("seen", .ref sd)]) → H' hl = some (.list [.ref r]) → H' r = some (.inst 84 rx) → H' rx = some (.idict [("told", named p), ("steps", .tup []), ("is_twice", .bool false)]) →
      H' sd = some (.dict []) → H hl = none → H sd = none → H r = none → H rx = none → Q .none H') :
    Cl c (k + 3) (.ref 128) [.ref x, w, named p] H Q := by
  have nx : x ≠ dx := by rintro rfl; rw [hd] at hx; cases hx
  refine Cl_fn ["self", "world", "told"] (fun P => rfl) (fun P => rfl) (fun vs h => ?_) ?_ ?_ (fun L fs => ?_)
  · obtain ⟨a, b, d, rfl⟩ := len3 h; rfl
  · decide
  · decide
  · refine W_execs_cons ?_
    repeat walk_at "s"
    refine W_setAttr hx hd (fun P => rfl) ?_
    repeat walk_at "s"
    refine c_mkReached2 fun r rx hr hrx nr => ?_
    repeat walk_at "s"
    refine W_newList fun hl nhl => ?_
    repeat walk_at "s"
    obtain ⟨r1, r2⟩ := upd_none.mp hr
    obtain ⟨rx1, rx2⟩ := upd_none.mp hrx
    obtain ⟨h1, h2⟩ := upd_none.mp nhl
    obtain ⟨h3, h2⟩ := upd_none.mp h2
    obtain ⟨h4, h2⟩ := upd_none.mp h2
    refine W_setAttr (dx := dx) (fs := [("world", w)]) (by (repeat first | assumption | exact upd_same .. | with_reducible refine (upd_ne (by first | assumption | (apply Ne.symm; assumption) | solve_by_elim [ne1, ne2])).trans ?_)) (by (repeat first | assumption | exact upd_same .. | with_reducible refine (upd_ne (by first | assumption | (apply Ne.symm; assumption) | solve_by_elim [ne1, ne2])).trans ?_)) (fun P => rfl) ?_
    repeat walk_at "s"
    refine W_Dict0 fun sd nsd => ?_
    repeat walk_at "s"
    obtain ⟨s1, nsd⟩ := upd_none.mp nsd
    obtain ⟨s2, nsd⟩ := upd_none.mp nsd
    obtain ⟨s3, nsd⟩ := upd_none.mp nsd
    obtain ⟨s4, nsd⟩ := upd_none.mp nsd
    obtain ⟨s5, nsd⟩ := upd_none.mp nsd
    refine W_setAttr (dx := dx) (fs := [("world", w), ("here", .ref hl)]) (by (repeat first | assumption | exact upd_same .. | with_reducible refine (upd_ne (by first | assumption | (apply Ne.symm; assumption) | solve_by_elim [ne1, ne2])).trans ?_)) (by (repeat first | assumption | exact upd_same .. | with_reducible refine (upd_ne (by first | assumption | (apply Ne.symm; assumption) | solve_by_elim [ne1, ne2])).trans ?_)) (fun P => rfl) ?_
    repeat walk_at "s"
    refine q hl sd r rx _ (fun a o e => ?_) (by (repeat first | assumption | exact upd_same .. | with_reducible refine (upd_ne (by first | assumption | (apply Ne.symm; assumption) | solve_by_elim [ne1, ne2])).trans ?_)) (by (repeat first | assumption | exact upd_same .. | with_reducible refine (upd_ne (by first | assumption | (apply Ne.symm; assumption) | solve_by_elim [ne1, ne2])).trans ?_)) (by (repeat first | assumption | exact upd_same .. | with_reducible refine (upd_ne (by first | assumption | (apply Ne.symm; assumption) | solve_by_elim [ne1, ne2])).trans ?_)) (by (repeat first | assumption | exact upd_same .. | with_reducible refine (upd_ne (by first | assumption | (apply Ne.symm; assumption) | solve_by_elim [ne1, ne2])).trans ?_)) (by (repeat first | assumption | exact upd_same .. | with_reducible refine (upd_ne (by first | assumption | (apply Ne.symm; assumption) | solve_by_elim [ne1, ne2])).trans ?_)) (by (repeat first | assumption | exact upd_same .. | with_reducible refine (upd_ne (by first | assumption | (apply Ne.symm; assumption) | solve_by_elim [ne1, ne2])).trans ?_)) h2 nsd r2 rx2
    by_cases z : a = dx
    · subst z; rw [hd] at e; cases e; exact upd_same ..
    · (repeat first | assumption | exact upd_same .. | with_reducible refine (upd_ne (by first | assumption | (apply Ne.symm; assumption) | solve_by_elim [ne1, ne2])).trans ?_)
end
structure LvAt (H : AH) (w lv dx hl sd : Addr) (L : List (Addr × Addr)) (rs : List Rch) (seen : List (Str × AV)) : Prop where
  i : H lv = some (.inst 138 dx)
  d : H dx = some (.idict [("world", .ref w), ("here", .ref hl), ("seen", .ref sd)])
  l : H hl = some (.list (L.map fun p => .ref p.1))
  r : All2 (fun p r => H p.1 = some (.inst 84 p.2) ∧ H p.2 = some (.idict r.fs)) L rs
  s : H sd = some (.dict seen)
theorem del_upd {H : AH} {a b : Addr} {o : AO} (n : b ≠ a) : upd (del H a) b o = del (upd H b o) a := by
  funext y
  by_cases z : y = a
  · rw [z, upd_ne n.symm, del_same, del_same]
  · rw [del_ne z]
    by_cases w : y = b
    · rw [w, upd_same, upd_same]
    · rw [upd_ne w, upd_ne w, del_ne z]
noncomputable def seenAfter (seen : List (Str × AV)) (rs : List Rch) : List (Str × AV) := rs.foldl (fun s r => storeA s r.path (.bool true)) seen
theorem storeA_le {l : List (Str × AV)} {x : Str} {a : AV} : (storeA l x a).length ≤ l.length + 1 := by
  unfold storeA; split
  · rw [List.length_map]; exact Nat.le_succ _
  · rw [List.length_append, List.length_singleton]; exact Nat.le_refl _
theorem seenAfter_le : ∀ {rs : List Rch} {seen : List (Str × AV)}, (seenAfter seen rs).length ≤ seen.length + rs.length
  | [], _ => Nat.le_refl _
  | r :: rs, seen => by
    have := @seenAfter_le rs (storeA seen r.path (.bool true))
    have := @storeA_le seen r.path (.bool true)
    simp only [seenAfter, List.foldl_cons, List.length_cons] at *
    lia
theorem seenAfter_next {rs : List Rch} {seen : List (Str × AV)} {i : Nat} {r : Rch} (e : rs[i]? = some r) : seenAfter seen (rs.take (i + 1)) = storeA (seenAfter seen (rs.take i)) r.path (.bool true) := by
  rw [take_next e]; simp only [seenAfter, List.foldl_append, List.foldl_cons, List.foldl_nil]
theorem All2.getL {α β : Type} {R : α → β → Prop} {l : List α} {r : List β} (x : All2 R l r) : ∀ {i : Nat} {a : α}, l[i]? = some a → ∃ b, r[i]? = some b ∧ R a b := by
  induction x with
  | nil => intro i b e; simp at e
  | cons p _ ih =>
    intro i b e
    cases i with
    | zero => simp at e; subst e; exact ⟨_, rfl, p⟩
    | succ i => simp at e; exact ih (i := i) e
noncomputable abbrev keyN (x : Str) : List Str := ["named", x]
noncomputable def zipL (L : List (Addr × Addr)) (rs : List Rch) : List (List Str × AV) := List.zipWith (fun p r => (keyN r.path, .ref p.1)) L rs
noncomputable def twice (x : Str) (r : Rch) : Rch := if r.path = x then { r with tw := true } else r
theorem twice_path {x : Str} {r : Rch} : (twice x r).path = r.path := by unfold twice; split <;> rfl
/-- one type more that is embedded on this level -/
noncomputable def stepIn (seen : List (Str × AV)) (later : List Rch) (r : Rch) : List Rch :=
  if later.any (fun x => decide (x.path = r.path)) then later.map (twice r.path) else if (valA seen r.path).isSome then later else later ++ [r]
theorem keyN_inj {x y : Str} : keyN x = keyN y ↔ x = y := by simp [keyN]
theorem tval_zip {R : Addr × Addr → Rch → Prop} {L : List (Addr × Addr)} {rs : List Rch} {x : Str} (r : All2 R L rs) :
    (tvalA (zipL L rs) (keyN x) = none → rs.any (fun y => decide (y.path = x)) = false) ∧ ∀ a, tvalA (zipL L rs) (keyN x) = some a → rs.any (fun y => decide (y.path = x)) = true ∧ ∃ (i : Nat) (p : Addr × Addr) (q : Rch), L[i]? = some p ∧ rs[i]? = some q ∧ q.path = x ∧ a = .ref p.1 := by
  induction r with
  | nil => exact ⟨fun _ => rfl, fun a e => by simp [tvalA, zipL] at e⟩
  | @cons p q l r hpq _ ih =>
    unfold tvalA zipL at *
    simp only [List.zipWith_cons_cons, List.find?_cons, keyN_inj, List.any_cons]
    by_cases z : q.path = x
    · simp only [z, decide_true, Option.map_some, Bool.true_or]
      exact ⟨(fun e => by cases e), fun a e => ⟨trivial, 0, p, q, rfl, rfl, z, by cases e; rfl⟩⟩
    · simp only [z, decide_false, Bool.false_or]
      refine ⟨ih.1, fun a e => ?_⟩
      obtain ⟨h, i, p', q', h1, h2, h3, h4⟩ := ih.2 a e
      exact ⟨h, i + 1, p', q', h1, h2, h3, h4⟩
theorem zipL_twice {x : Str} : ∀ {L : List (Addr × Addr)} {rs : List Rch}, zipL L (rs.map (twice x)) = zipL L rs
  | [], _ => by simp [zipL]
  | _ :: _, [] => by simp [zipL]
  | p :: L, r :: rs => by
    have := @zipL_twice x L rs
    simp only [zipL, List.map_cons, List.zipWith_cons_cons, twice_path] at *
    rw [this]
theorem zipL_snoc {p : Addr × Addr} {r : Rch} : ∀ {L : List (Addr × Addr)} {rs : List Rch}, rs.length = L.length → zipL (L ++ [p]) (rs ++ [r]) = zipL L rs ++ [(keyN r.path, .ref p.1)]
  | [], [], _ => rfl
  | [], _ :: _, h => by cases h
  | _ :: _, [], h => by cases h
  | q :: L, s :: rs, h => by
    have := @zipL_snoc p r L rs (by simpa using h)
    simp only [zipL, List.cons_append, List.zipWith_cons_cons] at *
    rw [this]
theorem zipL_snd {R : Addr × Addr → Rch → Prop} {L : List (Addr × Addr)} {rs : List Rch} (x : All2 R L rs) : (zipL L rs).map (·.2) = L.map fun p => AV.ref p.1 := by
  induction x with
  | nil => rfl
  | cons _ _ ih => simp only [zipL, List.zipWith_cons_cons, List.map_cons] at *; rw [ih]
theorem zipL_len {L : List (Addr × Addr)} {rs : List Rch} : (zipL L rs).length ≤ rs.length := by unfold zipL; rw [List.length_zipWith]; exact Nat.min_le_right _ _
noncomputable def fieldsOf (M : Mdl) (p : Str) : List Fld := match M p with | some s => s.fields | none => []
noncomputable def innerOf (M : Mdl) (seen : List (Str × AV)) (later : List Rch) (r : Rch) : List Rch := (embFrom r (fieldsOf M r.path) 0).foldl (stepIn seen) later
noncomputable def nextLevel (M : Mdl) (seen : List (Str × AV)) (rs : List Rch) : List Rch := rs.foldl (innerOf M seen) []
theorem stepIn_le {seen : List (Str × AV)} {later : List Rch} {r : Rch} : (stepIn seen later r).length ≤ later.length + 1 := by
  unfold stepIn; split
  · rw [List.length_map]; lia
  · split
    · lia
    · rw [List.length_append, List.length_singleton]; exact Nat.le_refl _
theorem stepIn_nodup {seen : List (Str × AV)} {later : List Rch} {r : Rch} (n : (later.map (·.path)).Nodup) : ((stepIn seen later r).map (·.path)).Nodup := by
  unfold stepIn; split
  · have : (later.map (twice r.path)).map (·.path) = later.map (·.path) := by rw [List.map_map]; exact List.map_congr_left fun y _ => twice_path
    rw [this]; exact n
  · rename_i h
    split
    · exact n
    · rw [List.map_append, List.nodup_append]
      refine ⟨n, by simp, ?_⟩
      intro a ma b mb z
      obtain ⟨y, my, rfl⟩ := List.mem_map.mp ma
      have hb : b = r.path := by simpa using mb
      exact h (List.any_eq_true.mpr ⟨y, my, decide_eq_true (z.trans hb)⟩)
/-- one of the new ones is marked -/
theorem tw_upd {H₁ H : AH} {L : List (Addr × Addr)} {rs : List Rch} (x : All2 (NR H₁ H) L rs) (nd : (L.map (·.2)).Nodup) (np : (rs.map (·.path)).Nodup) {i : Nat} {p : Addr × Addr} {q : Rch} (hp : L[i]? = some p) (hq : rs[i]? = some q) :
    All2 (NR H₁ (upd H p.2 (.idict { q with tw := true }.fs))) L (rs.map (twice q.path)) := by
  have hi : H p.2 = some (.idict q.fs) ∧ H p.1 = some (.inst 84 p.2) := by
    obtain ⟨q', e, a, b, _⟩ := x.getL hp
    rw [hq] at e; cases e; exact ⟨b, a⟩
  have far : ∀ {p' : Addr × Addr} {r : Rch}, NR H₁ H p' r → p'.2 ≠ p.2 → NR H₁ (upd H p.2 (.idict { q with tw := true }.fs)) p' r := fun {p' r} ⟨a, b, d, e⟩ n => by
    refine ⟨?_, by rw [upd_ne n]; exact b, d, e⟩
    rw [upd_ne]; exact a
    intro z; rw [z, hi.1] at a; cases a
  induction x generalizing i with
  | nil => simp at hp
  | @cons p' r' l rr hd tl ih =>
    rw [List.map_cons, List.nodup_cons] at nd np
    cases i with
    | zero =>
      simp at hp hq; subst hp; subst hq
      obtain ⟨a, b, d, e⟩ := hd
      rw [List.map_cons]
      refine .cons ?_ ?_
      · have : twice r'.path r' = { r' with tw := true } := by unfold twice; rw [if_pos rfl]
        rw [this]
        refine ⟨?_, upd_same .., d, e⟩
        rw [upd_ne]; exact a
        intro z; rw [z, b] at a; cases a
      · have e1 : rr.map (twice r'.path) = rr := by
          conv => rhs; rw [← List.map_id rr]
          refine List.map_congr_left fun y hy => ?_
          unfold twice; rw [if_neg]; rfl
          intro z; exact np.1 (List.mem_map.mpr ⟨y, hy, z⟩)
        rw [e1]
        clear ih
        induction tl with
        | nil => exact .nil
        | @cons p2 r2 _ _ h2 _ ih2 =>
          refine .cons (far h2 ?_) (ih2 ?_ ?_ ?_)
          · intro z; exact nd.1 (List.mem_map.mpr ⟨p2, .head _, z⟩)
          · rw [List.map_cons, List.nodup_cons] at nd; exact ⟨fun m => nd.1 (.tail _ m), nd.2.2⟩
          · rw [List.map_cons, List.nodup_cons] at np; exact ⟨fun m => np.1 (.tail _ m), np.2.2⟩
          · have := e1; rw [List.map_cons] at this; exact (List.cons.inj this).2
    | succ i =>
      simp at hp hq
      rw [List.map_cons]
      refine .cons ?_ (ih nd.2 np.2 hp hq)
      have n1 : r'.path ≠ q.path := fun z => np.1 (List.mem_map.mpr ⟨q, List.mem_of_getElem? hq, z.symm⟩)
      have : twice q.path r' = r' := by unfold twice; rw [if_neg n1]
      rw [this]
      exact far hd fun z => nd.1 (List.mem_map.mpr ⟨p, List.mem_of_getElem? hp, z.symm⟩)
section
variable {c : Cfg} {k : Nat} {H : AH}
theorem c_mkLevels {w : Addr} {p : Str} {Q : AV → AH → Prop}
    (q : ∀ lv dx hl sd r rx H', Sub H H' → LvAt H' w lv dx hl sd [(r, rx)] [⟨p, [], false⟩] [] → H dx = none → H hl = none → H sd = none → Q (.ref lv) H') :
    Cl c (k + 4) (.ref 138) [.ref w, named p] H Q := by
  refine Cl_make (fI := 128) (fun P => rfl) (fun P => rfl) (fun P => rfl) fun x dx hx hd nx => ?_
  refine c_Levels (upd_same ..) (by rw [upd_ne nx.symm, upd_same]) fun hl sd r rx H' S e1 e2 e3 e4 e5 e6 n1 n2 n3 n4 => ⟨rfl, ?_⟩
  obtain ⟨n1a, n1⟩ := upd_none.mp n1
  obtain ⟨n2a, n2⟩ := upd_none.mp n2
  refine q x dx hl sd r rx H' (fun a o e => ?_) ⟨e1, e2, e3, .cons ⟨e4, e5⟩ .nil, e6⟩ hd (upd_none.mp n1).2 (upd_none.mp n2).2
  have z : a ≠ dx := ne2 hd e
  have := S a o (upd_old (by rw [upd_ne nx]; exact hx) (upd_old hd e))
  rwa [upd_ne z] at this

set_option maxRecDepth 100000 in
set_option maxHeartbeats 2000000 in
theorem c_go_on {H₀ : AH} {w lv dx hl sd : Addr} {M : Mdl} {L : List (Addr × Addr)} {rs : List Rch} {seen : List (Str × AV)} {Q : AV → AH → Prop} (V : WorldAt H₀ w M) (S : Sub H₀ H) (nd : H₀ dx = none) (nl : H₀ hl = none) (ns : H₀ sd = none)
    (X : LvAt H w lv dx hl sd L rs seen) (hM : ∀ r ∈ rs, ∃ s, M r.path = some s ∧ s.fields.length ≤ 100) (hs : ∀ r ∈ rs, r.steps.length ≤ 1000) (hz : rs.length ≤ 100) (hz' : seen.length ≤ 10000) 
    (q : ∀ hl' L' H', (∀ a o, H a = some o → a ≠ dx → a ≠ sd → H' a = some o) → LvAt H' w lv dx hl' sd L' (nextLevel M (seenAfter seen rs) rs) (seenAfter seen rs) → H hl' = none → Q .none H') :
    Cl c (k + 4) (.ref 135) [.ref lv] H Q := by
  have hLr := X.r.len
  refine Cl_fn ["self"] (fun P => rfl) (fun P => rfl) (fun vs h => ?_) ?_ ?_ (fun F fs => ?_)
  · obtain ⟨a, rfl⟩ := len1 h; rfl
  · decide
  · decide
  · refine W_execs_cons ?_
    have nsl : sd ≠ hl := fun e => by have := X.s; rw [e, X.l] at this; cases this
    let J1 : JF := fun as own i am H' => A4 (as = L.map (fun p => .ref p.1)) (own = some (hl, .list (L.map fun p => .ref p.1))) (am "self" = some (.ref lv)) (H' = del (upd H sd (.dict (seenAfter seen (rs.take i)))) hl)
    refine W_ForH J1 (WI_list ?_)
    repeat walk_at "s"
    refine W_attr X.i X.d rfl (fun P => rfl) rfl ?_
    refine ⟨_, _, rfl, X.l, ⟨rfl, rfl, rfl, by rw [List.take_zero, seenAfter, List.foldl_nil, upd_self X.s]⟩, ?_, ?_⟩
    · rintro i a am H' ha ⟨-, -, m1, rfl⟩
      intro Q' hQ'
      obtain ⟨p, hp, rfl⟩ := Option.map_eq_some_iff.mp (List.getElem?_map .. ▸ ha)
      obtain ⟨r, hr, g1, g2⟩ := X.r.getL hp
      refine W_aName ?_
      have i1 : p.1 ≠ sd := fun e => by rw [e, X.s] at g1; cases g1
      have i2 : p.1 ≠ hl := fun e => by rw [e, X.l] at g1; cases g1
      have i3 : p.2 ≠ sd := fun e => by rw [e, X.s] at g2; cases g2
      have i4 : p.2 ≠ hl := fun e => by rw [e, X.l] at g2; cases g2
      have i5 : lv ≠ sd := fun e => by have := X.i; rw [e, X.s] at this; cases this
      have i6 : lv ≠ hl := fun e => by have := X.i; rw [e, X.l] at this; cases this
      have i7 : dx ≠ sd := fun e => by have := X.d; rw [e, X.s] at this; cases this
      have i8 : dx ≠ hl := fun e => by have := X.d; rw [e, X.l] at this; cases this
      have g1' : del (upd H sd (.dict (seenAfter seen (rs.take i)))) hl p.1 = some (.inst 84 p.2) := by rw [del_ne i2, upd_ne i1]; exact g1
      have g2' : del (upd H sd (.dict (seenAfter seen (rs.take i)))) hl p.2 = some (.idict r.fs) := by rw [del_ne i4, upd_ne i3]; exact g2
      repeat walk_at "s"
      refine W_attr g1' g2' rfl (fun P => rfl) rfl ?_
      repeat walk_at "s"
      refine ifT (by decide) ?_
      repeat walk_at "s"
      refine W_attr (by rw [del_ne i6, upd_ne i5]; exact X.i) (by rw [del_ne i8, upd_ne i7]; exact X.d) rfl (fun P => rfl) rfl ?_
      repeat walk_at "s"
      refine W_attr g1' g2' rfl (fun P => rfl) rfl ?_
      repeat walk_at "s"
      refine W_setItem_dict (d := sd) (l := seenAfter seen (rs.take i)) (by rw [del_ne nsl, upd_same]) ?_ ?_
      · have := @seenAfter_le (rs.take i) seen
        rw [List.length_take] at this; lia
      repeat walk_at "s"
      refine ⟨rfl, rfl, m1, ?_⟩
      rw [del_upd nsl, upd_upd, ← seenAfter_next hr]
    · rintro am H' ⟨-, -, m1, rfl⟩
      repeat walk_at "s"
      have eH : restore (some (hl, AO.list (List.map (fun p => AV.ref p.fst) L))) (del (upd H sd (AO.dict (seenAfter seen (List.take (List.map (fun p => AV.ref p.fst) L).length rs)))) hl) = upd H sd (.dict (seenAfter seen rs)) := by
        show upd (del _ hl) hl _ = _
        rw [upd_del, List.length_map, ← hLr, List.take_length]
        exact upd_self (by rw [upd_ne nsl.symm]; exact X.l)
      rw [eH]
      have kinds : ∀ {a o}, H a = some o → (∀ l, o ≠ .dict l) → upd H sd (.dict (seenAfter seen rs)) a = some o := fun {a o} e n => by
        rw [upd_ne]; exact e
        rintro rfl; rw [X.s] at e; cases e; exact n _ rfl
      have X1 : LvAt (upd H sd (.dict (seenAfter seen rs))) w lv dx hl sd L rs (seenAfter seen rs) :=
        ⟨kinds X.i (by simp), kinds X.d (by simp), kinds X.l (by simp), X.r.mono fun p r z => ⟨kinds z.1 (by simp), kinds z.2 (by simp)⟩, upd_same ..⟩
      have S1 : Sub H₀ (upd H sd (.dict (seenAfter seen rs))) := S.over ns
      have q1 : ∀ hl' L' H', (∀ a o, upd H sd (.dict (seenAfter seen rs)) a = some o → a ≠ dx → H' a = some o) → LvAt H' w lv dx hl' sd L' (nextLevel M (seenAfter seen rs) rs) (seenAfter seen rs) → upd H sd (.dict (seenAfter seen rs)) hl' = none → Q .none H' :=
        fun hl' L' H' z Y n => q hl' L' H' (fun a o e n1 n2 => z a o (by rw [upd_ne n2]; exact e) n1) Y (upd_none.mp n).2
      generalize upd H sd (.dict (seenAfter seen rs)) = H1 at X1 S1 q1 ⊢
      clear q kinds eH
      refine W_Dict0T fun lt nlt => ?_
      have ltl : lt ≠ hl := ne1 nlt X1.l
      repeat walk_at "s"
      let J2 : JF := fun as own i am H' => A6 (as = L.map (fun p => .ref p.1)) (own = some (hl, .list (L.map fun p => .ref p.1))) (am "self" = some (.ref lv)) (am "later" = some (.ref lt)) (Sub (del H1 hl) H') (∃ Ll rl, A6 (H' lt = some (.tdict (zipL Ll rl))) (All2 (NR H1 H') Ll rl) ((Ll.map (·.2)).Nodup) (rl = (rs.take i).foldl (innerOf M (seenAfter seen rs)) []) ((rl.map (·.path)).Nodup) (rl.length ≤ i * 100))
      refine W_ForH J2 (WI_list ?_)
      repeat walk_at "s"
      have lk : ∀ {a o}, H1 a = some o → upd H1 lt (.tdict []) a = some o := fun e => upd_old nlt e
      refine W_attr (lk X1.i) (lk X1.d) rfl (fun P => rfl) rfl ?_
      refine ⟨_, _, rfl, lk X1.l, ⟨rfl, rfl, m1, rfl, fun a o e => ?_, [], [], by rw [del_ne ltl, upd_same]; rfl, .nil, List.nodup_nil, rfl, List.nodup_nil, Nat.zero_le _⟩, ?_, ?_⟩
      · by_cases z : a = hl
        · rw [z] at e ⊢; rw [del_same] at e ⊢; exact e
        · rw [del_ne z] at e ⊢; exact lk e
      · rintro i a am H' ha ⟨-, -, m1, m2, KH, Ll, rl, hlt, hA, hn, hrl, hpn, hle⟩
        intro Q' hQ'
        obtain ⟨p, hp, rfl⟩ := Option.map_eq_some_iff.mp (List.getElem?_map .. ▸ ha)
        obtain ⟨r, hr, g1, g2⟩ := X1.r.getL hp
        obtain ⟨st, hst, hf⟩ := hM r (List.mem_of_getElem? hr)
        have hi : i < 100 := by have := (List.getElem?_eq_some_iff.mp hr).1; lia
        have efs : fieldsOf M r.path = st.fields := by unfold fieldsOf; rw [hst]
        have kk : ∀ {a o}, H1 a = some o → (∀ l, o ≠ .list l) → H' a = some o := fun {a o} e n => KH a o (by rw [del_ne]; exact e; rintro rfl; rw [X1.l] at e; cases e; exact n _ rfl)
        refine W_aName ?_
        refine W_execs_cons ?_
        have SH : Sub H₀ H' := fun a o e => KH a o (by rw [del_ne (ne2 nl e)]; exact S1 a o e)
        let J3 : JF := fun as own j am' H3 => ∃ (fd : Addr) (L' : List (Addr × Addr)), A9 (as = L'.map (fun p => .ref p.1)) (own = some (fd, .list (L'.map fun p => .ref p.1))) (am' "self" = some (.ref lv)) (am' "later" = some (.ref lt)) (H' fd = none) (H3 fd = some .lent) (Sub (del H1 hl) H3) (L'.length = (embFrom r st.fields 0).length) (∃ Ll rl, A7 (H3 lt = some (.tdict (zipL Ll rl))) (All2 (NR H1 H3) Ll rl) (All2 (NR H1 H3) (L'.drop j) ((embFrom r st.fields 0).drop j)) (((Ll ++ L'.drop j).map (·.2)).Nodup) (rl = ((embFrom r st.fields 0).take j).foldl (stepIn (seenAfter seen rs)) ((rs.take i).foldl (innerOf M (seenAfter seen rs)) [])) ((rl.map (·.path)).Nodup) (rl.length ≤ i * 100 + j))
        refine W_ForH J3 (WI_list ?_)
        repeat walk_at "s"
        refine W_attr (kk X1.i (by simp)) (kk X1.d (by simp)) rfl (fun P => rfl) rfl ?_
        repeat walk_at "s"
        refine c_embedded_in (V.sub SH) ⟨_, kk g1 (by simp), kk g2 (by simp)⟩ hst (by lia) (by have := hs r (List.mem_of_getElem? hr); lia) fun fd L' H'' S'' nfd hfd hL' nd' _ => ?_
        repeat walk_at "s"
        have none1 : ∀ {a}, H' a = none → H1 a = none := fun {a} n => by
          cases e : H1 a with
          | none => rfl
          | some o =>
            by_cases z : a = hl
            · subst z; have := KH a .lent del_same; rw [n] at this; cases this
            · have := KH a o (by rw [del_ne z]; exact e); rw [n] at this; cases this
        have fdl : fd ≠ lt := ne1 nfd hlt
        have NR' : ∀ {p : Addr × Addr} {q : Rch}, NR H' H'' p q → NR H1 (del H'' fd) p q := fun {p q} ⟨a, b, d, e⟩ =>
          ⟨by rw [del_ne]; exact a; (rintro rfl; rw [hfd] at a; cases a), by rw [del_ne]; exact b; (rintro rfl; rw [hfd] at b; cases b), none1 d, none1 e⟩
        have NR1 : ∀ {p : Addr × Addr} {q : Rch}, NR H1 H' p q → NR H1 (del H'' fd) p q := fun {p q} ⟨a, b, d, e⟩ => ⟨by rw [del_ne (ne2 nfd a)]; exact S'' _ _ a, by rw [del_ne (ne2 nfd b)]; exact S'' _ _ b, d, e⟩
        refine ⟨fd, _, rfl, hfd, ⟨fd, L', rfl, rfl, m1, m2, nfd, del_same, fun a o e => ?_, hL'.len.symm, Ll, rl, ?_, hA.mono fun _ _ => NR1, ?_, ?_, ?_, hpn, hle⟩, ?_, ?_⟩
        · have := KH a o e
          rw [del_ne (ne2 nfd this)]; exact S'' _ _ this
        · rw [del_ne fdl.symm]; exact S'' _ _ hlt
        · rw [List.drop_zero, List.drop_zero]; exact hL'.mono fun _ _ => NR'
        · rw [List.drop_zero, List.map_append, List.nodup_append]
          refine ⟨hn, nd', ?_⟩
          intro a ma b mb z
          obtain ⟨y, my, rfl⟩ := List.mem_map.mp ma
          obtain ⟨y', my', rfl⟩ := List.mem_map.mp mb
          obtain ⟨_, _, _, b1, _, _⟩ := hA.memL my
          obtain ⟨_, _, _, _, _, b2⟩ := hL'.memL my'
          rw [z, b2] at b1; cases b1
        · rw [List.take_zero]; exact hrl
        · rintro j a am' H3 ha ⟨fd', L3, e1, e2, m1', m2', nfd', hfd3, K3, hlen, Ll3, rl3, hlt3, hA3, hB3, hn3, hrl3, hpn3, hle3⟩
          intro Q' hQ'
          rw [e1] at ha
          obtain ⟨p', hp', rfl⟩ := Option.map_eq_some_iff.mp (List.getElem?_map .. ▸ ha)
          have hj : j < L3.length := (List.getElem?_eq_some_iff.mp hp').1
          have hd : L3.drop j = p' :: L3.drop (j + 1) := by rw [List.drop_eq_getElem_cons hj, (List.getElem?_eq_some_iff.mp hp').2]
          have hj2 : j < (embFrom r st.fields 0).length := by lia
          obtain ⟨r', hr'⟩ : ∃ r', (embFrom r st.fields 0)[j]? = some r' := ⟨_, List.getElem?_eq_getElem hj2⟩
          have hd2 : (embFrom r st.fields 0).drop j = r' :: (embFrom r st.fields 0).drop (j + 1) := by rw [List.drop_eq_getElem_cons hj2, (List.getElem?_eq_some_iff.mp hr').2]
          have hj3 : j < 100 := by
            have := @embFrom_le r st.fields 0
            lia
          rw [hd, hd2] at hB3
          rw [hd] at hn3
          obtain ⟨hb, tb⟩ : NR H1 H3 p' r' ∧ All2 (NR H1 H3) (L3.drop (j + 1)) ((embFrom r st.fields 0).drop (j + 1)) := by cases hB3 with | cons a b => exact ⟨a, b⟩
          have kk3 : ∀ {a o}, H1 a = some o → (∀ l, o ≠ .list l) → H3 a = some o := fun {a o} e n => K3 a o (by rw [del_ne]; exact e; rintro rfl; rw [X1.l] at e; cases e; exact n _ rfl)
          have enext : ((embFrom r st.fields 0).take (j + 1)).foldl (stepIn (seenAfter seen rs)) ((rs.take i).foldl (innerOf M (seenAfter seen rs)) []) = stepIn (seenAfter seen rs) rl3 r' := by
            rw [take_next hr', List.foldl_append, ← hrl3]; rfl
          have hn4 : ((Ll3 ++ L3.drop (j + 1)).map (·.2)).Nodup := by
            rw [List.map_append, List.map_cons] at hn3
            rw [List.map_append]
            exact hn3.sublist (List.Sublist.append_left (List.sublist_cons_self _ _) _)
          have hle4 : (stepIn (seenAfter seen rs) rl3 r').length ≤ i * 100 + (j + 1) := Nat.le_trans stepIn_le (by lia)
          refine W_aName ?_
          refine W_execs_cons ?_
          repeat walk_at "s"
          refine W_attr hb.1 hb.2.1 rfl (fun P => rfl) rfl ?_
          repeat walk_at "s"
          refine W_in_tdict (ks := keyN r'.path) hlt3 ?_
          repeat walk_at "s"
          cases hT : tvalA (zipL Ll3 rl3) (keyN r'.path) with
          | some a0 =>
            obtain ⟨hany, i0, p0, r0, h1, h2, h3, rfl⟩ := (tval_zip hA3).2 a0 hT
            obtain ⟨n0a, n0b, n0c, n0d⟩ : NR H1 H3 p0 r0 := by obtain ⟨r0', e0, n0⟩ := hA3.getL h1; rw [h2] at e0; cases e0; exact n0
            have hs' : stepIn (seenAfter seen rs) rl3 r' = rl3.map (twice r'.path) := by unfold stepIn; rw [if_pos hany]
            refine ifT rfl ?_
            repeat walk_at "s"
            refine W_attr hb.1 hb.2.1 rfl (fun P => rfl) rfl ?_
            refine W_item_tdict (ks := keyN r'.path) hlt3 hT ?_
            refine W_setAttr n0a n0b (fun P => rfl) ?_
            repeat walk_at "s"
            have hdn : del H1 hl p0.2 = none := by
              by_cases z : p0.2 = hl
              · have := K3 hl .lent del_same; rw [← z, n0b] at this; cases this
              · rw [del_ne z]; exact n0d
            have hd0 : ∀ {b o}, H3 b = some o → (∀ l, o ≠ .idict l) → upd H3 p0.2 (.idict { r0 with tw := true }.fs) b = some o := fun {b o} e n => by
              rw [upd_ne]; exact e
              rintro rfl; rw [n0b] at e; cases e; exact n _ rfl
            refine ⟨fd', L3, e1, e2, m1', m2', nfd', hd0 hfd3 (by simp), K3.over hdn, hlen, Ll3, rl3.map (twice r'.path), by rw [zipL_twice]; exact hd0 hlt3 (by simp), ?_, ?_, hn4, by rw [enext, hs'], by rw [← hs']; exact stepIn_nodup hpn3, by rw [← hs']; exact hle4⟩
            · have hnL : (Ll3.map (·.2)).Nodup := by rw [List.map_append, List.nodup_append] at hn3; exact hn3.1
              rw [← h3]; exact tw_upd hA3 hnL hpn3 h1 h2
            · have mono : ∀ {l : List (Addr × Addr)} {rr : List Rch}, All2 (NR H1 H3) l rr → (∀ p ∈ l, p.2 ≠ p0.2) → All2 (NR H1 (upd H3 p0.2 (.idict { r0 with tw := true }.fs))) l rr := by
                intro l rr x
                induction x with
                | nil => intro _; exact .nil
                | cons z _ ih => intro h; exact .cons ⟨hd0 z.1 (by simp), by rw [upd_ne (h _ (.head _))]; exact z.2.1, z.2.2.1, z.2.2.2⟩ (ih fun p m => h p (.tail _ m))
              refine mono tb fun p m z => ?_
              rw [List.map_append, List.nodup_append] at hn4
              exact hn4.2.2 _ (List.mem_map.mpr ⟨p0, List.mem_of_getElem? h1, rfl⟩) _ (List.mem_map.mpr ⟨p, m, rfl⟩) z.symm
          | none =>
            have hany := (tval_zip hA3).1 hT
            refine ifF rfl ?_
            repeat walk_at "s"
            refine W_attr hb.1 hb.2.1 rfl (fun P => rfl) rfl ?_
            repeat walk_at "s"
            refine ifF (by decide) ?_
            repeat walk_at "s"
            refine W_attr hb.1 hb.2.1 rfl (fun P => rfl) rfl ?_
            repeat walk_at "s"
            refine W_attr (kk3 X1.i (by simp)) (kk3 X1.d (by simp)) rfl (fun P => rfl) rfl ?_
            refine W_notIn_dict (kk3 X1.s (by simp)) ?_
            repeat walk_at "s"
            cases hS : (valA (seenAfter seen rs) r'.path).isSome with
            | true =>
              have hs' : stepIn (seenAfter seen rs) rl3 r' = rl3 := by unfold stepIn; rw [if_neg (by rw [hany]; exact Bool.false_ne_true), if_pos hS]
              refine ifF rfl ?_
              repeat walk_at "s"
              refine ifF rfl ?_
              repeat walk_at "s"
              exact ⟨fd', L3, e1, e2, m1', m2', nfd', hfd3, K3, hlen, Ll3, rl3, hlt3, hA3, tb, hn4, by rw [enext, hs'], hpn3, by rw [← hs']; exact hle4⟩
            | false =>
              have hs' : stepIn (seenAfter seen rs) rl3 r' = rl3 ++ [r'] := by unfold stepIn; rw [if_neg (by rw [hany]; exact Bool.false_ne_true), if_neg (by rw [hS]; exact Bool.false_ne_true)]
              refine ifT rfl ?_
              refine ifT rfl ?_
              repeat walk_at "s"
              refine W_attr hb.1 hb.2.1 rfl (fun P => rfl) rfl ?_
              refine W_setItem_tdict (ks := keyN r'.path) hlt3 (Nat.le_trans zipL_len (by lia)) ?_
              repeat walk_at "s"
              have hd0 : ∀ {b o}, H3 b = some o → (∀ l, o ≠ .tdict l) → ∀ {y}, upd H3 lt y b = some o := fun {b o} e n y => by
                rw [upd_ne]; exact e
                rintro rfl; rw [hlt3] at e; cases e; exact n _ rfl
              have hdn : del H1 hl lt = none := by rw [del_ne ltl]; exact nlt
              have mono : ∀ {y}, ∀ (p : Addr × Addr) (r : Rch), NR H1 H3 p r → NR H1 (upd H3 lt y) p r := fun p r z => ⟨hd0 z.1 (by simp), hd0 z.2.1 (by simp), z.2.2.1, z.2.2.2⟩
              refine ⟨fd', L3, e1, e2, m1', m2', nfd', hd0 hfd3 (by simp), K3.over hdn, hlen, Ll3 ++ [p'], rl3 ++ [r'], ?_, (hA3.mono mono).append (.cons (mono _ _ hb) .nil), tb.mono mono, ?_, by rw [enext, hs'], by rw [← hs']; exact stepIn_nodup hpn3, by rw [← hs']; exact hle4⟩
              · rw [upd_same, zipL_snoc hA3.len]
                unfold tstoreA
                rw [hT, if_neg (by simp)]
              · rw [List.append_assoc]; exact hn3
        · rintro am' H3 ⟨fd', L3, e1, e2, m1', m2', nfd', hfd3, K3, hlen, Ll3, rl3, hlt3, hA3, hB3, hn3, hrl3, hpn3, hle3⟩
          have efd : fd' = fd := by have := Option.some.inj e2; exact (congrArg Prod.fst this).symm
          subst efd
          repeat walk_at "s"
          have elen : (L'.map fun p : Addr × Addr => AV.ref p.1).length = (embFrom r st.fields 0).length := by rw [List.length_map, hL'.len]
          have hemb : (embFrom r st.fields 0).length ≤ 100 := Nat.le_trans embFrom_le hf
          have hdn : del H1 hl fd' = none := by
            cases e : del H1 hl fd' with
            | none => rfl
            | some o => have := KH _ _ e; rw [nfd] at this; cases this
          have hd0 : ∀ {b o}, H3 b = some o → o ≠ .lent → ∀ {y}, upd H3 fd' y b = some o := fun {b o} e n y => by
            rw [upd_ne]; exact e
            rintro rfl; rw [hfd3] at e; cases e; exact n rfl
          rw [elen] at hrl3 hle3
          rw [List.take_length] at hrl3
          refine ⟨rfl, rfl, m1', m2', K3.over hdn, Ll3, rl3, hd0 hlt3 (by simp), hA3.mono fun p r z => ⟨hd0 z.1 (by simp), hd0 z.2.1 (by simp), z.2.2.1, z.2.2.2⟩, ?_, ?_, hpn3, by lia⟩
          · rw [List.map_append, List.nodup_append] at hn3; exact hn3.1
          · rw [take_next hr, List.foldl_append, hrl3]
            show _ = innerOf M (seenAfter seen rs) _ r
            unfold innerOf
            rw [efs]
      · rintro am H' ⟨-, -, m1, m2, KH, Ll, rl, hlt, hA, hn, hrl, hpn, hle⟩
        rw [List.length_map, ← hLr, List.take_length] at hrl
        have KR : Sub H1 (restore (some (hl, AO.list (List.map (fun p => AV.ref p.fst) L))) H') := fun a o e => by
          show upd H' hl _ a = some o
          by_cases z : a = hl
          · rw [z, upd_same]; rw [z, X1.l] at e; exact e
          · rw [upd_ne z]; exact KH a o (by rw [del_ne z]; exact e)
        have hH : H' hl = some .lent := KH _ _ del_same
        have kr : ∀ {b o}, H' b = some o → o ≠ .lent → restore (some (hl, AO.list (List.map (fun p => AV.ref p.fst) L))) H' b = some o := fun {b o} e n => by
          show upd H' hl _ b = some o
          rw [upd_ne]; exact e
          rintro rfl; rw [hH] at e; cases e; exact n rfl
        have hlt' := kr hlt (by simp)
        have hA' : All2 (NR H1 (restore (some (hl, AO.list (List.map (fun p => AV.ref p.fst) L))) H')) Ll rl := hA.mono fun p r z => ⟨kr z.1 (by simp), kr z.2.1 (by simp), z.2.2.1, z.2.2.2⟩
        generalize restore (some (hl, AO.list (List.map (fun p => AV.ref p.fst) L))) H' = H5 at KR hlt' hA' ⊢
        repeat walk_at "s"
        refine S_CallT (T := "list") rfl rfl rfl (by decide) rfl rfl rfl (fun _ => rfl) (by decide +kernel) (by decide) ?_
        repeat walk_at "s"
        refine WM_tdict hlt' PySem.F.slot_dict_values (by kernel_rfl) (W_callMeth0 (fa := [.ref lt]) (fun _ => by exact ⟨_, _, rfl, rfl, rfl⟩) (W_values hlt' fun v nv => ?_))
        repeat walk_at "s"
        have zl : (zipL Ll rl).map (·.2) = Ll.map fun p => .ref p.1 := by
          exact zipL_snd hA'
        refine W_listView (upd_same ..) (upd_old nv hlt') (Nat.le_trans zipL_len (by have : (List.map (fun p => AV.ref p.fst) L).length ≤ 100 := by rw [List.length_map]; lia
                                                                                     lia)) fun b nb => ?_
        repeat walk_at "s"
        obtain ⟨nb1, nb2⟩ := upd_none.mp nb
        refine W_setAttr (upd_old nb (upd_old nv (KR _ _ X1.i))) (upd_old nb (upd_old nv (KR _ _ X1.d))) (fun P => rfl) ?_
        repeat walk_at "s"
        rw [zl]
        have ld : lv ≠ dx := fun z => by have := X1.i; rw [z, X1.d] at this; cases this
        have sdd : sd ≠ dx := fun z => by have := X1.s; rw [z, X1.d] at this; cases this
        have up : ∀ {a o}, H5 a = some o → a ≠ dx → ∀ {x}, upd (upd (upd H5 v (AO.view lt)) b (AO.list (Ll.map fun p => .ref p.1))) dx x a = some o := fun {a o} e n x => by
          rw [upd_ne n]; exact upd_old nb (upd_old nv e)
        refine q1 b Ll _ (fun a o e n => up (KR _ _ e) n) ⟨up (KR _ _ X1.i) ld, by rw [upd_same]; rfl, ?_, ?_, up (KR _ _ X1.s) sdd⟩ (KR.none nb2)
        · rw [upd_ne (ne1 nb2 (KR _ _ X1.d)), upd_same]
        · rw [show nextLevel M (seenAfter seen rs) rs = rl from hrl.symm]
          exact hA'.mono fun p r z => ⟨up z.1 (ne1 z.2.2.1 X1.d), up z.2.1 (ne1 z.2.2.2 X1.d)⟩
end
noncomputable def fieldAt (steps : List AV) (name : Str) : List Fld → Nat → Option AV
  | [], _ => none
  | f :: l, i => if f.name = name then some (.tup [.str "field", .tup (steps ++ [.tup [.int i, .bool false]]), f.ty]) else fieldAt steps name l (i + 1)
noncomputable def methOf (s : Strct) (name : Str) : Option Mth := (s.mths.find? fun m => decide (m.1 = name)).map (·.2)
noncomputable def methAv (steps : List AV) (m : Mth) : AV := .tup [.str "method", .tup steps, m.key, .bool m.ptr, m.func]
noncomputable def memberAt (s : Strct) (r : Rch) (name : Str) : List AV := match methOf s name with
  | some m => [methAv r.steps m]
  | none => (fieldAt r.steps name s.fields 0).toList
theorem valA_dict {s : Strct} {name : Str} : valA s.dict name = (methOf s name).map Mth.av := by
  unfold valA Strct.dict methOf
  generalize s.mths = l
  induction l with
  | nil => rfl
  | cons m l ih =>
    simp only [List.map_cons, List.find?_cons]
    by_cases z : m.1 = name
    · simp only [z, decide_true, Option.map_some]
    · simp only [z, decide_false]; exact ih
theorem fieldAt_none {steps : List AV} {name : Str} : ∀ {l : List Fld} {i : Nat}, (∀ f ∈ l, f.name ≠ name) → fieldAt steps name l i = none
  | [], _, _ => rfl
  | f :: l, i, h => by
    unfold fieldAt
    rw [if_neg (h f (.head _))]
    exact fieldAt_none fun g m => h g (.tail _ m)
theorem fieldAt_some {steps : List AV} {name : Str} : ∀ {l : List Fld} {i j : Nat} {f : Fld}, l[j]? = some f → f.name = name → (∀ g ∈ l.take j, g.name ≠ name) → fieldAt steps name l i = some (.tup [.str "field", .tup (steps ++ [.tup [.int (i + j : Nat), .bool false]]), f.ty])
  | [], _, _, _, e, _, _ => by simp at e
  | g :: l, i, 0, f, e, n, _ => by
    simp at e; subst e
    unfold fieldAt
    rw [if_pos n]; rfl
  | g :: l, i, j + 1, f, e, n, h => by
    unfold fieldAt
    rw [if_neg (h g (by simp))]
    rw [fieldAt_some (j := j) (by simpa using e) n fun g' m => h g' (by simp [m])]
    rw [show i + 1 + j = i + (j + 1) by omega]

section
variable {c : Cfg} {k : Nat} {H : AH}
set_option maxRecDepth 100000 in
set_option maxHeartbeats 2000000 in
theorem c_members_at {w r0 : Addr} {M : Mdl} {r : Rch} {s : Strct} {name : Str} {Q : AV → AH → Prop} (V : WorldAt H w M) (hr : ReachedAt H r0 r) (hp : M r.path = some s) (hs : r.steps.length ≤ 100000)
    (q : ∀ l H', Sub H H' → H l = none → H' l = some (.list (memberAt s r name)) → Q (.ref l) H') :
    Cl c (k + 2) (.ref 107) [.ref w, .ref r0, .str name] H Q := by
  refine Cl_fnC ["world", "reached", "name"] (fun P => rfl) (fun P => rfl) (fun vs h => ?_) ?_ ?_ (fun F fs hc => ?_)
  · obtain ⟨a, b, d, rfl⟩ := len3 h; rfl
  · intro n x m
    simp only [List.mem_cons, List.mem_nil_iff, or_false] at m
    rcases m with rfl | rfl | rfl
    · exact .inl rfl
    · exact .inl rfl
    · exact .inr ⟨rfl, rfl⟩
  · intro n; exact ndB_of rfl
  · have c1 : H (F + 1) = none := hc ("name", F + 1) (.tail _ (.head _))
    have c2 : H (F + 1 + 1) = none := hc ("steps", F + 1 + 1) (.head _)
    have nc : F + 1 + 1 ≠ F + 1 := Nat.succ_ne_self _
    clear hc
    generalize hK : cellsH H _ _ = HC
    have hC1 : HC (F + 1) = some (.cell (some (.str name))) := by rw [← hK]; exact (upd_ne nc.symm).trans (upd_same ..)
    have hC2 : HC (F + 1 + 1) = some (.cell none) := by rw [← hK]; exact upd_same ..
    have SC : Sub H HC := by
      have : cellsH H _ _ = HC := hK
      intro a o e
      rw [← hK]
      exact (upd_ne (ne2 c2 e)).trans ((upd_ne (ne2 c1 e)).trans e)
    clear hK
    obtain ⟨rx, g1, g2⟩ := hr
    refine W_execs_cons ?_
    refine W_Assign_Tuple ?_
    repeat walk_at "s"
    refine W_attr (SC _ _ g1) (SC _ _ g2) rfl (fun P => rfl) rfl ?_
    repeat walk_at "s"
    refine W_attr (SC _ _ g1) (SC _ _ g2) rfl (fun P => rfl) rfl ?_
    repeat walk_at "s"
    refine W_aTup (W_ino_cons (W_aName (W_ino_cons (W_aNameC hC2 (W_ino_nil ?_)))))
    have SC2 : Sub H (upd HC (F + 1 + 1) (.cell (some (.tup r.steps)))) := SC.over c2
    have hD1 : upd HC (F + 1 + 1) (.cell (some (.tup r.steps))) (F + 1) = some (.cell (some (.str name))) := by rw [upd_ne nc.symm]; exact hC1
    have hD2 : upd HC (F + 1 + 1) (.cell (some (.tup r.steps))) (F + 1 + 1) = some (.cell (some (.tup r.steps))) := upd_same ..
    simp only [] at *
    generalize upd HC (F + 1 + 1) (.cell (some (.tup r.steps))) = HD at SC2 hD1 hD2 ⊢
    clear hC1 hC2 SC
    have V2 := V.sub SC2
    repeat walk_at "s"
    refine c_own_methods V2 hp fun md hmd => ?_
    repeat walk_at "s"
    refine W_cell hD1 ?_
    repeat walk_at "s"
    refine W_in_dict hmd ?_
    repeat walk_at "s"
    rw [valA_dict, Option.isSome_map]
    cases hm : methOf s name with
    | some m =>
      refine ifT rfl ?_
      repeat walk_at "s"
      refine W_Assign_Tuple ?_
      repeat walk_at "s"
      refine W_cell hD1 ?_
      refine W_item_dict hmd (by rw [valA_dict, hm]; rfl) ?_
      refine W_aTup (W_ino_cons (W_aName (W_ino_cons (W_aName (W_ino_cons (W_aName (W_ino_nil ?_)))))))
      repeat walk_at "s"
      refine W_cell hD2 ?_
      repeat walk_at "s"
      refine W_newList fun l nl => ?_
      repeat walk_at "s"
      refine q l _ (SC2.add nl) (SC2.none nl) ?_
      rw [upd_same]; unfold memberAt; rw [hm]; rfl
    | none =>
      refine ifF rfl ?_
      repeat walk_at "s"
      obtain ⟨dx, nd, l, F', e1, e2, e3, e6, e4, e5⟩ := id V2
      refine WM_def (f := 240) e1 e2 e6 (fun P => rfl) (fun P => rfl) ?_
      repeat walk_at "s"
      refine c_base_of V2 hp ?_
      repeat walk_at "s"
      refine ifT (by decide) ?_
      repeat walk_at "s"
      let J1 : JF := fun as own i am H' => A5 (as = enumA (s.fields.map Fld.av) 0) (own = none) (H' = HD) ((∀ g ∈ s.fields.take i, g.name ≠ name)) (am "base" = some (under s))
      refine W_ForH J1 (WI_enumT ?_)
      repeat walk_at "s"
      refine ⟨_, rfl, ⟨rfl, rfl, rfl, by simp, rfl⟩, ?_, ?_⟩
      · rintro i a am H' ha ⟨-, -, rfl, hno, m1⟩
        intro Q' hQ'
        obtain ⟨b, hb, rfl⟩ := enumA_inv ha
        obtain ⟨f, hf, rfl⟩ := Option.map_eq_some_iff.mp (List.getElem?_map .. ▸ hb)
        refine W_aTup (W_ino_cons (W_aName (W_ino_cons (W_aName (W_ino_nil ?_)))))
        repeat walk_at "s"
        refine W_cell hD1 ?_
        repeat walk_at "s"
        by_cases z : f.name = name
        · refine ifT (decide_eq_true z) ?_
          repeat walk_at "s"
          refine W_cell hD2 ?_
          repeat walk_at "s"
          refine W_tupAdd ?_ (by simp only [List.length_cons, List.length_nil]; omega)
          repeat walk_at "s"
          refine W_newList fun l nl => ?_
          repeat walk_at "s"
          refine q l _ (SC2.add nl) (SC2.none nl) ?_
          show upd H' l _ l = _
          rw [upd_same]; unfold memberAt; rw [hm, fieldAt_some hf z hno, Nat.zero_add]; rfl
        · refine ifF (decide_eq_false z) ?_
          repeat walk_at "s"
          refine ⟨rfl, rfl, rfl, ?_, m1⟩
          rw [take_next hf]
          intro g m
          rcases List.mem_append.mp m with m | m
          · exact hno g m
          · rw [List.mem_singleton.mp m]; exact z
      · rintro am H' ⟨-, -, rfl, hno, m1⟩
        repeat walk_at "s"
        refine ifF (by decide) ?_
        repeat walk_at "s"
        refine W_newList fun l nl => ?_
        repeat walk_at "s"
        refine q l _ (SC2.add nl) (SC2.none nl) ?_
        show upd H' l _ l = _
        rw [enumA_length, List.length_map, List.take_length] at hno
        rw [upd_same]; unfold memberAt; rw [hm, fieldAt_none hno]; rfl
end
section
variable {c : Cfg} {k : Nat} {H : AH}
noncomputable def faultNs (msg spot : AV) : Str → Option AV := put (put (fun _ => none) "message" msg) "spot" spot
theorem boot_Exception : bootBuiltins "Exception" = some (.type "Exception") := by decide +kernel
/-- ChanError.__init__ -/
theorem c_Chan {x C : Addr} {as : List AV} {msg spot : AV} {Q : AV → AH → Prop} (hx : H x = some (.exc C none)) (hm : ∀ P, mroIn (KK P) C (.type "Exception") = some true) (o1 : ∀ P, excOk (KK P) C "message" = true) (o2 : ∀ P, excOk (KK P) C "spot" = true)
    (ha : (as = [.ref x, msg] ∧ spot = .int 0) ∨ as = [.ref x, msg, spot])
    (q : ∀ d, H d = none → d ≠ x → Q .none (upd (upd H x (.exc C (some d))) d (.ns (faultNs msg spot)))) :
    Cl c (k + 1) (.ref 36) as H Q := by
  refine Cl_fnG (as' := [.ref x, msg, spot]) ["self", "message", "spot"] (fun P => rfl) (fun P => rfl) (fun s vs X r => ?_) ?_ ?_ (fun L fs => ?_)
  · rcases ha with ⟨rfl, rfl⟩ | rfl
    · refine ⟨vs ++ [.int 0 208], ?_, VRs.append r (by exact ⟨_, _, rfl, ⟨_, rfl⟩, rfl⟩)⟩
      obtain ⟨a, b, rfl⟩ := len2 r.length; exact BindsTo.of_defaults rfl (X 29 _ rfl) rfl rfl rfl
    · refine ⟨vs, ?_, r⟩
      obtain ⟨a, b, d, rfl⟩ := len3 r.length; exact BindsTo.of_defaults rfl (X 29 _ rfl) rfl rfl rfl
  · decide
  · decide
  · refine W_execs_cons ?_
    repeat walk_at "s"
    refine W_boot (fun P => rfl) boot_Exception ?_
    refine WM_type (T := "Exception") (id := "Exception.__init__") (by kernel_rfl) (by decide +kernel) (fun P => by rfl) (by decide +kernel) ?_
    repeat walk_at "s"
    refine W_excInit hx hm ?_
    repeat walk_at "s"
    refine W_setX_none hx o1 fun d nd ndx => ?_
    repeat walk_at "s"
    refine W_setX_some (ns := ["message"]) (by rw [upd_ne ndx.symm, upd_same]) (upd_same ..) o2 (fun y hy => ?_) (by decide) ?_
    · unfold put; rw [if_neg]; intro z; exact hy (by rw [z]; exact .head _)
    repeat walk_at "s"
    rw [upd_upd]
    exact q d nd ndx
/-- NameFault(msg) -/
theorem c_NameFault {msg : AV} {Q : AV → AH → Prop} (q : ∀ x d, H x = none → H d = none → d ≠ x → Q (.ref x) (upd (upd H x (.exc 52 (some d))) d (.ns (faultNs msg (.int 0))))) : Cl c (k + 2) (.ref 52) [msg] H Q := by
  refine Cl_makeX excCls_Name (by simp) fun x hx => ?_
  refine c_Chan (upd_same ..) (fun P => rfl) (fun P => rfl) (fun P => rfl) (.inl ⟨rfl, rfl⟩) fun d hd ndx => ⟨rfl, ?_⟩
  rw [upd_upd]
  exact q x d hx (by rw [upd_ne ndx] at hd; exact hd) ndx
theorem c_TypeFault {msg spot : AV} {Q : AV → AH → Prop} (q : ∀ x d, H x = none → H d = none → d ≠ x → Q (.ref x) (upd (upd H x (.exc 64 (some d))) d (.ns (faultNs msg spot)))) : Cl c (k + 2) (.ref 64) [msg, spot] H Q := by
  refine Cl_makeX excCls_Type (by simp) fun x hx => ?_
  refine c_Chan (upd_same ..) (fun P => rfl) (fun P => rfl) (fun P => rfl) (.inr rfl) fun d hd ndx => ⟨rfl, ?_⟩
  rw [upd_upd]
  exact q x d hx (by rw [upd_ne ndx] at hd; exact hd) ndx
end
noncomputable def strOf (M : Mdl) (p : Str) : Strct := (M p).getD ⟨[], []⟩
theorem strOf_some {M : Mdl} {p : Str} {s : Strct} (h : M p = some s) : strOf M p = s := by unfold strOf; rw [h]; rfl
noncomputable def foundOf (M : Mdl) (name : Str) (r : Rch) : List AV := if r.tw then memberAt (strOf M r.path) r name ++ memberAt (strOf M r.path) r name else memberAt (strOf M r.path) r name
/-- the members of a level -/
noncomputable def foundAt (M : Mdl) (name : Str) (rs : List Rch) : List AV := rs.flatMap (foundOf M name)
noncomputable abbrev Lv := List (Str × AV) × List Rch
noncomputable def lvNext (M : Mdl) (l : Lv) : Lv := (seenAfter l.1 l.2, nextLevel M (seenAfter l.1 l.2) l.2)
noncomputable def lvl (M : Mdl) (p : Str) : Nat → Lv
  | 0 => ([], [⟨p, [], false⟩])
  | i + 1 => lvNext M (lvl M p i)
inductive Out where
  | none
  | one (a : AV)
  | two
noncomputable def findOut (M : Mdl) (name : Str) : Nat → Lv → Out
  | 0, _ => .none
  | n + 1, l => match foundAt M name l.2 with
    | [] => findOut M name n (lvNext M l)
    | [a] => .one a
    | _ => .two
structure LvOk (M : Mdl) (p : Str) (N : Nat) : Prop where
  ends : (lvl M p N).2 = []
  goes : ∀ i, i < N → (lvl M p i).2 ≠ []
  knows : ∀ i, i < N → ∀ r ∈ (lvl M p i).2, ∃ s, M r.path = some s ∧ s.fields.length ≤ 100
  short : ∀ i, i < N → ∀ r ∈ (lvl M p i).2, r.steps.length ≤ 1000
  few : ∀ i, i < N → (lvl M p i).2.length ≤ 100
  seen : ∀ i, i < N → (lvl M p i).1.length ≤ 10000
theorem memberAt_le {s : Strct} {r : Rch} {name : Str} : (memberAt s r name).length ≤ 1 := by
  unfold memberAt
  split
  · exact Nat.le_refl _
  · cases fieldAt r.steps name s.fields 0 <;> simp
theorem foundOf_le {M : Mdl} {name : Str} {r : Rch} : (foundOf M name r).length ≤ 2 := by
  have := @memberAt_le (strOf M r.path) r name
  unfold foundOf
  split
  · rw [List.length_append]; lia
  · lia
theorem foundAt_le {M : Mdl} {name : Str} : ∀ {rs : List Rch}, (foundAt M name rs).length ≤ 2 * rs.length
  | [] => Nat.le_refl _
  | r :: rs => by
    have := @foundAt_le M name rs
    have := @foundOf_le M name r
    simp only [foundAt, List.flatMap_cons, List.length_append, List.length_cons] at *
    lia
theorem foundAt_next {M : Mdl} {name : Str} {rs : List Rch} {i : Nat} {r : Rch} (e : rs[i]? = some r) : foundAt M name (rs.take (i + 1)) = foundAt M name (rs.take i) ++ foundOf M name r := by
  rw [take_next e]; simp only [foundAt, List.flatMap_append, List.flatMap_cons, List.flatMap_nil, List.append_nil]
theorem findOut_cons {M : Mdl} {name : Str} {n : Nat} {l : Lv} : findOut M name (n + 1) l = (match foundAt M name l.2 with
    | [] => findOut M name n (lvNext M l)
    | [a] => .one a
    | _ => .two) := rfl
/-- what find_member tells -/
noncomputable def findAt (M : Mdl) (p name : Str) (N : Nat) : Out := if name = "_" then .none else findOut M name N (lvl M p 0)
noncomputable def Out.av : Out → AV
  | .one a => a
  | _ => .none
theorem boot_len : bootBuiltins "len" = some (.builtin "len") := by decide +kernel
theorem LvAt.sub {H H' : AH} {w lv dx hl sd : Addr} {L : List (Addr × Addr)} {rs : List Rch} {seen : List (Str × AV)} (S : Sub H H') (X : LvAt H w lv dx hl sd L rs seen) : LvAt H' w lv dx hl sd L rs seen :=
  ⟨S _ _ X.i, S _ _ X.d, S _ _ X.l, X.r.mono fun _ _ z => ⟨S _ _ z.1, S _ _ z.2⟩, S _ _ X.s⟩
theorem ReachedAt.del {H : AH} {a l : Addr} {as : List AV} {r : Rch} (e : H l = some (.list as)) (x : ReachedAt H a r) : ReachedAt (Mine.del H l) a r := by
  obtain ⟨dx, e1, e2⟩ := x
  refine ⟨dx, ?_, ?_⟩
  · rw [del_ne]; exact e1
    rintro rfl; rw [e] at e1; cases e1
  · rw [del_ne]; exact e2
    rintro rfl; rw [e] at e2; cases e2
/-- a list that was lent comes back -/
theorem sub_back {H H' : AH} {l : Addr} {as : List AV} (e : H l = some (.list as)) (S : Sub (Mine.del H l) H') : Sub H (restore (some (l, .list as)) H') := fun a o z => by
  show upd H' l _ a = some o
  by_cases y : a = l
  · rw [y, upd_same]; rw [y, e] at z; exact z
  · rw [upd_ne y]; exact S a o (by rw [del_ne y]; exact z)
section
variable {c : Cfg} {k : Nat} {H : AH}
set_option maxRecDepth 100000 in
set_option maxHeartbeats 2000000 in
theorem c_find_member {w : Addr} {M : Mdl} {p name : Str} {told : AV} {N : Nat} {Q : AV → AH → Prop} {X : XQ} (V : WorldAt H w M) (ht : told = named p ∨ told = .tup [.str "ptr", named p]) (G : LvOk M p N) (hM : ∃ s, M p = some s) (hn : name.length ≤ 1000)
    (q : ∀ H', Sub H H' → findAt M p name N ≠ .two → Q (findAt M p name N).av H') (x : ∀ od H', Sub H H' → findAt M p name N = .two → X (.ref 52) od H') : CX c (k + 8) (.ref 156) [.ref w, told, .str name] H Q X := by
  obtain ⟨s, hs⟩ := hM
  refine CX_fn ["world", "told", "name"] (fun P => rfl) (fun P => rfl) (fun vs h => ?_) ?_ ?_ (fun L fs => ?_)
  · obtain ⟨a, b, d, rfl⟩ := len3 h; rfl
  · decide
  · decide
  · refine WX_execs_W ?_
    repeat walk_at "s"
    by_cases hu : name = "_"
    · refine ifT (decide_eq_true hu) ?_
      repeat walk_at "s"
      have e : findAt M p name N = .none := if_pos hu
      rw [e] at q
      exact q H (Sub.refl _) (by simp)
    refine ifF (decide_eq_false hu) ?_
    repeat walk_at "s"
    have e : findAt M p name N = findOut M name N (lvl M p 0) := if_neg hu
    rw [e] at q x
    refine WX_execs_W ?_
    repeat walk_at "s"
    have st : ∀ {Q : AV → AH → Prop}, Q (.tup [named p, .bool false]) H → Cl c (k + 7) (.ref 149) [.ref w, told] H Q := fun {Q} q => by
      rcases ht with rfl | rfl
      · exact c_start_named V hs q
      · exact c_start_ptr V hs q
    refine st ?_
    repeat walk_at "s"
    refine WX_execs_W ?_
    repeat walk_at "s"
    try (refine W_is_none ?_)
    repeat walk_at "s"
    refine ifF rfl ?_
    repeat walk_at "s"
    refine WX_execs_W ?_
    repeat walk_at "s"
    refine c_mkLevels fun lv dx hl sd r rx H₁ S₁ X₁ n1 n2 n3 => ?_
    repeat walk_at "s"
    refine WX_execs_cons ?_
    have Lz : LvAt H₁ w lv dx hl sd [(r, rx)] (lvl M p 0).2 (lvl M p 0).1 := X₁
    let J1 : JW := fun n am H' => ∃ i hl L, A9 (n + i = N) (am "world" = some (.ref w)) (am "name" = some (.str name)) (am "levels" = some (.ref lv)) (am "begun" = some (.tup [named p, .bool false])) (Sub H H') (LvAt H' w lv dx hl sd L (lvl M p i).2 (lvl M p i).1) (H hl = none) (findOut M name n (lvl M p i) = findOut M name N (lvl M p 0))
    refine WX_While J1 N ⟨0, hl, _, rfl, rfl, rfl, rfl, rfl, S₁, Lz, n2, rfl⟩ ?_
    clear Lz X₁ S₁ n2 hl r rx
    rintro n am H₂ ⟨i, hl, L, hi, m1, m2, m3, m4, S₂, X₂, n2, he⟩
    repeat walk_at "s"
    refine W_attr X₂.i X₂.d rfl (fun P => rfl) rfl ?_
    repeat walk_at "s"
    refine W_newList fun nb nnb => ?_
    have X₃ := X₂.sub (Sub.upd (o := .list []) nnb)
    have S₃ : Sub H (upd H₂ nb (.list [])) := S₂.add nnb
    refine W_ne_nil X₃.l (upd_same ..) ?_
    generalize upd H₂ nb (.list []) = H₃ at X₃ S₃ ⊢
    clear X₂ S₂ nnb nb H₂
    repeat walk_at "s"
    have hLr := X₃.r.len
    cases n with
    | zero =>
      have hiN : i = N := by lia
      subst hiN
      have e0 : L = [] := by rw [G.ends] at hLr; exact List.eq_nil_of_length_eq_zero hLr.symm
      subst e0
      refine ifF rfl ?_
      repeat walk_at "s"
      refine WX_execs_W ?_
      repeat walk_at "s"
      have : findOut M name i (lvl M p 0) = .none := he.symm
      rw [this] at q
      exact q H₃ S₃ (by simp)
    | succ n =>
      have hiN : i < N := by lia
      have hne : L ≠ [] := by rintro rfl; exact G.goes i hiN (List.eq_nil_of_length_eq_zero hLr)
      refine ifT (by cases L with | nil => exact absurd rfl hne | cons _ _ => rfl) ?_
      refine WX_execs_W ?_
      repeat walk_at "s"
      refine W_newList fun fd nfd => ?_
      repeat walk_at "s"
      refine WX_execs_W ?_
      have X₄ := X₃.sub (Sub.upd (o := .list []) nfd)
      have S₄ : Sub H (upd H₃ fd (.list [])) := S₃.add nfd
      have nfdH : H fd = none := S₃.none nfd
      have hfd : upd H₃ fd (.list []) fd = some (.list []) := upd_same ..
      have nfx : fd ≠ hl := ne1 nfd X₃.l
      generalize upd H₃ fd (.list []) = H₄ at X₄ S₄ hfd ⊢
      have hfew := G.few i hiN
      have hknows := G.knows i hiN
      have hshort := G.short i hiN
      clear X₃ S₃ nfd H₃
      let J2 : JF := fun as own j am H' => A9 (as = L.map (fun p => .ref p.1)) (own = some (hl, .list (L.map fun p => .ref p.1))) (am "world" = some (.ref w)) (am "name" = some (.str name)) (am "levels" = some (.ref lv)) (am "begun" = some (.tup [named p, .bool false])) (am "found" = some (.ref fd)) ((∀ a o, del H₄ hl a = some o → a ≠ fd → H' a = some o)) (H' fd = some (.list (foundAt M name ((lvl M p i).2.take j))))
      refine W_ForH J2 (WI_list ?_)
      repeat walk_at "s"
      refine W_attr X₄.i X₄.d rfl (fun P => rfl) rfl ?_
      refine ⟨_, _, rfl, X₄.l, ⟨rfl, rfl, m1, m2, m3, m4, rfl, fun a o e _ => e, by rw [del_ne nfx]; exact hfd⟩, ?_, ?_⟩
      · rintro j a am' H' ha ⟨-, -, m1, m2, m3, m4, m5, K, hf⟩
        intro Q' hQ'
        obtain ⟨pr, hp, rfl⟩ := Option.map_eq_some_iff.mp (List.getElem?_map .. ▸ ha)
        obtain ⟨r, hr, g1, g2⟩ := X₄.r.getL hp
        obtain ⟨st, hst, hsz⟩ := hknows r (List.mem_of_getElem? hr)
        have hsh := hshort r (List.mem_of_getElem? hr)
        refine W_aName ?_
        repeat walk_at "s"
        have R0 : ReachedAt (del H₄ hl) pr.1 r := (show ReachedAt H₄ pr.1 r from ⟨_, g1, g2⟩).del X₄.l
        have V0 : WorldAt (del H₄ hl) w M := (V.sub S₄).del X₄.l
        have KS : ∀ {b o}, del H₄ hl b = some o → (∀ l, o ≠ .list l) → H' b = some o := fun {b o} e n => K b o e (by rintro rfl; rw [del_ne nfx, hfd] at e; cases e; exact n _ rfl)
        have R1 : ReachedAt H' pr.1 r := by obtain ⟨rx, e1, e2⟩ := R0; exact ⟨rx, KS e1 (by simp), KS e2 (by simp)⟩
        have V1 : WorldAt H' w M := by
          obtain ⟨dx, nd, l, F, e1, e2, e3, e6, e4, e5⟩ := V0
          refine ⟨dx, nd, l, F, KS e1 (by simp), KS e2 (by simp), e3, e6, KS e4 (by simp), fun p s z => ?_⟩
          obtain ⟨r, q, dx', md, a, b, f1, f2, f3⟩ := e5 p s z
          exact ⟨r, q, dx', md, a, b, KS f1 (by simp), KS f2 (by simp), KS f3 (by simp)⟩
        refine c_members_at V1 R1 hst (by lia) fun ml H'' S'' nml hml => ?_
        repeat walk_at "s"
        have hf' : H'' fd = some (.list (foundAt M name ((lvl M p i).2.take j))) := S'' _ _ hf
        have hfle : (foundAt M name ((lvl M p i).2.take j)).length ≤ 200 := by
          have := @foundAt_le M name ((lvl M p i).2.take j)
          have : ((lvl M p i).2.take j).length ≤ (lvl M p i).2.length := by rw [List.length_take]; exact Nat.min_le_right _ _
          lia
        have hmle := @memberAt_le st r name
        refine WM_listM hf' PySem.F.slot_list_extend (by kernel_rfl) ?_
        repeat walk_at "s"
        obtain ⟨rx, r1, r2⟩ := R1
        refine W_attr (S'' _ _ r1) (S'' _ _ r2) rfl (fun P => rfl) rfl ?_
        repeat walk_at "s"
        cases htw : r.tw with
        | true =>
          refine ifT rfl ?_
          repeat walk_at "s"
          refine W_listAdd hml hml (fun dd ndd => ?_) (by lia)
          repeat walk_at "s"
          refine W_extend (upd_old ndd hf') (upd_same ..) (by rw [List.length_append]; lia) ?_
          repeat walk_at "s"
          refine ⟨rfl, rfl, m1, m2, m3, m4, m5, fun b o e n => ?_, ?_⟩
          · rw [upd_ne n]; exact upd_old ndd (S'' _ _ (K b o e n))
          · rw [upd_same, foundAt_next hr, foundOf, if_pos htw, strOf_some hst]
        | false =>
          refine ifF rfl ?_
          repeat walk_at "s"
          refine W_extend hf' hml (by lia) ?_
          repeat walk_at "s"
          refine ⟨rfl, rfl, m1, m2, m3, m4, m5, fun b o e n => ?_, ?_⟩
          · rw [upd_ne n]; exact S'' _ _ (K b o e n)
          · rw [upd_same, foundAt_next hr, foundOf, if_neg (by rw [htw]; exact Bool.false_ne_true), strOf_some hst]
      · rintro am' H' ⟨-, -, m1, m2, m3, m4, m5, K, hf⟩
        repeat walk_at "s"
        rw [List.length_map, ← hLr, List.take_length] at hf
        have hfle := @foundAt_le M name (lvl M p i).2
        have K5 : ∀ a o, H₄ a = some o → a ≠ fd → restore (some (hl, AO.list (L.map fun p => AV.ref p.1))) H' a = some o := fun a o e n => by
          show upd H' hl _ a = some o
          by_cases y : a = hl
          · rw [y, upd_same]; rw [y, X₄.l] at e; exact e
          · rw [upd_ne y]; exact K a o (by rw [del_ne y]; exact e) n
        have hf5 : restore (some (hl, AO.list (L.map fun p => AV.ref p.1))) H' fd = some (.list (foundAt M name (lvl M p i).2)) := by
          show upd H' hl _ fd = _
          rw [upd_ne nfx]; exact hf
        generalize restore (some (hl, AO.list (L.map fun p => AV.ref p.1))) H' = H₅ at K5 hf5 ⊢
        have S5 : Sub H H₅ := fun a o e => K5 a o (S₄ a o e) (ne2 nfdH e)
        have KX : ∀ {b o}, H₄ b = some o → o ≠ .list [] → H₅ b = some o := fun {b o} e n => K5 b o e (by rintro rfl; rw [hfd] at e; cases e; exact n rfl)
        have X5 : LvAt H₅ w lv dx hl sd L (lvl M p i).2 (lvl M p i).1 :=
          ⟨KX X₄.i (by simp), KX X₄.d (by simp), K5 _ _ X₄.l nfx.symm, X₄.r.mono fun _ _ z => ⟨KX z.1 (by simp), KX z.2 (by simp)⟩, KX X₄.s (by simp)⟩
        clear J2 K hf KX K5 X₄ S₄ hfd H' H₄
        refine WX_execs_cons (WX_If ?_)
        repeat walk_at "s"
        refine S_CallB (id := "len") rfl rfl rfl (by decide) rfl rfl rfl (fun _ => rfl) boot_len (by decide) ?_
        repeat walk_at "s"
        refine W_len hf5 (by lia) ?_
        repeat walk_at "s"
        try (refine W_gt_int ?_)
        repeat walk_at "s"
        rw [findOut_cons] at he
        by_cases h1 : 1 < (foundAt M name (lvl M p i).2).length
        · refine ifT (decide_eq_true (by lia)) ?_
          have h2 : findOut M name N (lvl M p 0) = .two := by
            rw [← he]
            match foundAt M name (lvl M p i).2, h1 with
            | a :: b :: l, _ => rfl
          refine WX_execs_cons (WX_Raise excCls_Name ?_)
          refine S_CallDef rfl rfl (by decide) rfl rfl rfl (fun _ => rfl) (fun _ => rfl) ?_
          repeat walk_at "s"
          refine W_add_str ?_ (by have : ("ambiguous: " : Str).length = 11 := by decide
                                  lia)
          repeat walk_at "s"
          refine c_NameFault fun x' d hx' hd' ndx => ?_
          refine ⟨x', some d, rfl, by rw [upd_ne ndx.symm, upd_same], hx', x _ _ ?_ h2⟩
          intro a o e
          have e' := S5 a o e
          rw [drop_ne (ne2 hx' e'), upd_ne (ne2 hd' e'), upd_ne (ne2 hx' e')]; exact e'
        · refine ifF (decide_eq_false (by lia)) ?_
          refine WX_execs_nil ?_
          repeat walk_at "s"
          refine WX_execs_cons (WX_If ?_)
          repeat walk_at "s"
          refine W_newList fun nb nnb => ?_
          refine W_ne_nil (upd_old nnb hf5) (upd_same ..) ?_
          repeat walk_at "s"
          match hfa : foundAt M name (lvl M p i).2, h1 with
          | _ :: _ :: l, h => exact absurd (by simp) h
          | [a], _ =>
            rw [hfa] at he hf5
            refine ifT rfl ?_
            refine WX_execs_W ?_
            repeat walk_at "s"
            refine ifF rfl ?_
            refine ifF rfl ?_
            repeat walk_at "s"
            refine W_item_list (upd_old nnb hf5) (by decide) (by rfl) ?_ (by decide)
            repeat walk_at "s"
            have h2 : findOut M name N (lvl M p 0) = .one a := he.symm
            rw [h2] at q
            exact q _ (S5.add nnb) (by simp)
          | [], _ =>
            rw [hfa] at he
            refine ifF rfl ?_
            refine WX_execs_nil ?_
            repeat walk_at "s"
            refine WX_execs_W ?_
            have X6 := X5.sub (Sub.upd (o := .list []) nnb)
            have S6 : Sub H (upd H₅ nb (.list [])) := S5.add nnb
            generalize upd H₅ nb (.list []) = H₆ at X6 S6 ⊢
            repeat walk_at "s"
            refine WM_def0 (f := 135) X6.i X6.d rfl (fun P => rfl) (fun P => rfl) ?_
            refine c_go_on V S6 n1 n2 n3 X6 (G.knows i hiN) (G.short i hiN) (G.few i hiN) (G.seen i hiN) fun hl' L' H₇ K7 X7 n7 => ?_
            repeat walk_at "s"
            refine WX_execs_nil ?_
            exact ⟨n, Nat.lt_succ_self n, i + 1, hl', L', by lia, m1, m2, m3, m4, fun a o e => K7 a o (S6 a o e) (ne2 n1 e) (ne2 n3 e), X7, S6.none n7, he⟩
end
noncomputable def Out.told : Out → AV
  | .none => .none
  | .one a => a
  | .two => .str "two"
section
variable {c : Cfg} {k : Nat} {H : AH}
theorem c_law_told {w : Addr} {M : Mdl} {p name : Str} {told : AV} {N : Nat} {Q : AV → AH → Prop} (V : WorldAt H w M) (ht : told = named p ∨ told = .tup [.str "ptr", named p]) (G : LvOk M p N) (hM : ∃ s, M p = some s) (hn : name.length ≤ 1000)
    (q : ∀ H', Sub H H' → Q (findAt M p name N).told H') : Cl c (k + 9) (.ref 303) [.ref w, told, .str name] H Q := by
  refine Cl_fn ["world", "T", "name"] (fun P => rfl) (fun P => rfl) (fun vs h => ?_) ?_ ?_ (fun L fs => ?_)
  · obtain ⟨a, b, d, rfl⟩ := len3 h; rfl
  · decide
  · decide
  · refine W_execs_cons (W_TryRet (C := 52) (x := "NameFault") (d := .str "two") (fun _ => rfl) excCls_Name.cls.try (fun A s E P z => wpAny_Constant_str (z _ _ (by exact ⟨_, rfl⟩))) ?_)
    refine WX_execs_cons (WX_Return (WX_CallDef (fun _ => rfl) (fun _ => rfl) ?_))
    repeat walk_at "s"
    refine c_find_member V ht G hM hn (fun H' S' e => ?_) (fun od H' S' e => ?_)
    · repeat walk_at "s"
      have := q H' S'
      cases h : findAt M p name N with
      | none => rw [h] at this; exact this
      | one a => rw [h] at this; exact this
      | two => exact absurd h e
    · refine ⟨rfl, fun am' => ?_⟩
      have := q H' S'
      rw [e] at this
      exact this
theorem c_member_or_none {w : Addr} {M : Mdl} {p name : Str} {told : AV} {N : Nat} {Q : AV → AH → Prop} (V : WorldAt H w M) (ht : told = named p ∨ told = .tup [.str "ptr", named p]) (G : LvOk M p N) (hM : ∃ s, M p = some s) (hn : name.length ≤ 1000)
    (q : ∀ H', Sub H H' → Q (findAt M p name N).av H') : Cl c (k + 9) (.ref 170) [.ref w, told, .str name] H Q := by
  refine Cl_fn ["world", "told", "name"] (fun P => rfl) (fun P => rfl) (fun vs h => ?_) ?_ ?_ (fun L fs => ?_)
  · obtain ⟨a, b, d, rfl⟩ := len3 h; rfl
  · decide
  · decide
  · refine W_execs_cons (W_TryRet (C := 52) (x := "NameFault") (d := .none) (fun _ => rfl) excCls_Name.cls.try (fun A s E P z => wpAny_Constant_none (z _ s.toks (by simp only [VR]))) ?_)
    refine WX_execs_cons (WX_Return (WX_CallDef (fun _ => rfl) (fun _ => rfl) ?_))
    repeat walk_at "s"
    refine c_find_member V ht G hM hn (fun H' S' e => ?_) (fun od H' S' e => ?_)
    · repeat walk_at "s"
      exact q H' S'
    · refine ⟨rfl, fun am' => ?_⟩
      have := q H' S'
      rw [e] at this
      exact this
end
noncomputable def addNames (D : List (Str × AV)) (ms : List (Str × Mth)) : List (Str × AV) := ms.foldl (fun D m => storeA D m.1 (.bool true)) D
noncomputable def namesLv (M : Mdl) (D : List (Str × AV)) (rs : List Rch) : List (Str × AV) := rs.foldl (fun D r => addNames D (strOf M r.path).mths) D
noncomputable def namesFrom (M : Mdl) : Nat → Lv → List (Str × AV) → List (Str × AV)
  | 0, _, D => D
  | n + 1, l, D => namesFrom M n (lvNext M l) (namesLv M D l.2)
/-- keys apart, all in B -/
noncomputable def KeysIn (B : List Str) (D : List (Str × AV)) : Prop := (D.map (·.1)).Nodup ∧ ∀ x ∈ D.map (·.1), x ∈ B
theorem nodup_le {l B : List Str} (n : l.Nodup) (h : ∀ x ∈ l, x ∈ B) : l.length ≤ B.length := by
  induction l generalizing B with
  | nil => exact Nat.zero_le _
  | cons x l ih =>
    have hx := h x (.head _)
    have : l.length ≤ (B.erase x).length := ih (List.nodup_cons.mp n).2 fun y hy => by
      refine (List.mem_erase_of_ne ?_).mpr (h y (.tail _ hy))
      rintro rfl; exact (List.nodup_cons.mp n).1 hy
    rw [List.length_erase_of_mem hx] at this
    have : 0 < B.length := List.length_pos_of_mem hx
    rw [List.length_cons]; lia
theorem KeysIn.le {B : List Str} {D : List (Str × AV)} (x : KeysIn B D) : D.length ≤ B.length := by
  have := nodup_le x.1 x.2
  rwa [List.length_map] at this
theorem storeA_keys {D : List (Str × AV)} {x : Str} {a : AV} : (storeA D x a).map (·.1) = if x ∈ D.map (·.1) then D.map (·.1) else D.map (·.1) ++ [x] := by
  have e : D.any (fun p => decide (p.1 = x)) = decide (x ∈ D.map (·.1)) := by
    rw [Bool.eq_iff_iff, List.any_eq_true, decide_eq_true_iff, List.mem_map]
    simp
  unfold storeA
  rw [e]
  by_cases h : x ∈ D.map (·.1)
  · rw [if_pos (decide_eq_true h), if_pos h, List.map_map]
    refine List.map_congr_left fun p _ => ?_
    by_cases z : p.1 = x <;> simp [z]
  · rw [if_neg (by rw [decide_eq_false h]; exact Bool.false_ne_true), if_neg h, List.map_append]; rfl
theorem KeysIn.store {B : List Str} {D : List (Str × AV)} {x : Str} {a : AV} (k : KeysIn B D) (h : x ∈ B) : KeysIn B (storeA D x a) := by
  unfold KeysIn
  rw [storeA_keys]
  split
  · exact k
  · rename_i n
    refine ⟨List.nodup_append.mpr ⟨k.1, by simp, ?_⟩, fun y hy => ?_⟩
    · rintro y hy z hz rfl; exact n (List.mem_singleton.mp hz ▸ hy)
    · rcases List.mem_append.mp hy with hy | hy
      · exact k.2 y hy
      · exact List.mem_singleton.mp hy ▸ h
theorem KeysIn.add {B : List Str} : ∀ {ms : List (Str × Mth)} {D : List (Str × AV)}, KeysIn B D → (∀ m ∈ ms, m.1 ∈ B) → KeysIn B (addNames D ms)
  | [], _, k, _ => k
  | m :: ms, D, k, h => KeysIn.add (ms := ms) (k.store (h m (.head _))) fun m' x => h m' (.tail _ x)
theorem KeysIn.lv {B : List Str} {M : Mdl} : ∀ {rs : List Rch} {D : List (Str × AV)}, KeysIn B D → (∀ r ∈ rs, ∀ m ∈ (strOf M r.path).mths, m.1 ∈ B) → KeysIn B (namesLv M D rs)
  | [], _, k, _ => k
  | r :: rs, D, k, h => KeysIn.lv (rs := rs) (k.add (h r (.head _))) fun r' x => h r' (.tail _ x)
theorem addNames_next {D : List (Str × AV)} {ms : List (Str × Mth)} {i : Nat} {m : Str × Mth} (e : ms[i]? = some m) : addNames D (ms.take (i + 1)) = storeA (addNames D (ms.take i)) m.1 (.bool true) := by
  rw [take_next e]; simp only [addNames, List.foldl_append, List.foldl_cons, List.foldl_nil]
theorem namesLv_next {M : Mdl} {D : List (Str × AV)} {rs : List Rch} {i : Nat} {r : Rch} (e : rs[i]? = some r) : namesLv M D (rs.take (i + 1)) = addNames (namesLv M D (rs.take i)) (strOf M r.path).mths := by
  rw [take_next e]; simp only [namesLv, List.foldl_append, List.foldl_cons, List.foldl_nil]
theorem dict_get {s : Strct} {i : Nat} {en : Str × AV} (h : s.dict[i]? = some en) : ∃ m, s.mths[i]? = some m ∧ en = (m.1, m.2.av) := by
  unfold Strct.dict at h
  rw [List.getElem?_map] at h
  obtain ⟨m, e, q⟩ := Option.map_eq_some_iff.mp h
  exact ⟨m, e, q.symm⟩
/-- all of H but at f -/
noncomputable def But (f : Addr) (H H' : AH) : Prop := ∀ a o, H a = some o → a ≠ f → H' a = some o
theorem But.refl {f : Addr} {H : AH} : But f H H := fun _ _ e _ => e
theorem But.trans {f : Addr} {H H' H'' : AH} (x : But f H H') (y : But f H' H'') : But f H H'' := fun a o e n => y a o (x a o e n) n
theorem But.upd {f : Addr} {H H' : AH} {o : AO} (x : But f H H') : But f H (Mine.upd H' f o) := fun a o e n => by rw [upd_ne n]; exact x a o e n
theorem But.add {f b : Addr} {H H' : AH} {o : AO} (x : But f H H') (n : H' b = none) : But f H (Mine.upd H' b o) := fun a o e m => upd_old n (x a o e m)
theorem But.back {f l : Addr} {ob : AO} {H H' : AH} (e : H l = some ob) (x : But f (Mine.del H l) H') : But f H (restore (some (l, ob)) H') := fun a o z n => by
  show Mine.upd H' l _ a = some o
  by_cases y : a = l
  · rw [y, upd_same]; rw [y, e] at z; exact z
  · rw [upd_ne y]; exact x a o (by rw [del_ne y]; exact z) n
theorem restore_ne {a l : Addr} {ob : AO} {H : AH} (n : a ≠ l) : restore (some (l, ob)) H a = H a := upd_ne n
theorem LvAt.but {f : Addr} {H H' : AH} {w lv dx hl sd : Addr} {L : List (Addr × Addr)} {rs : List Rch} {seen : List (Str × AV)} (x : But f H H') (n1 : f ≠ lv) (n2 : f ≠ dx) (n3 : f ≠ hl) (n4 : f ≠ sd) (n5 : ∀ p ∈ L, f ≠ p.1 ∧ f ≠ p.2) (X : LvAt H w lv dx hl sd L rs seen) : LvAt H' w lv dx hl sd L rs seen :=
  ⟨x _ _ X.i n1.symm, x _ _ X.d n2.symm, x _ _ X.l n3.symm, by
    have := X.r
    clear X
    induction this with
    | nil => exact .nil
    | cons h _ ih => exact .cons ⟨x _ _ h.1 (n5 _ (.head _)).1.symm, x _ _ h.2 (n5 _ (.head _)).2.symm⟩ (ih fun p m => n5 p (.tail _ m)), x _ _ X.s n4.symm⟩
theorem LvAt.new {f : Addr} {H : AH} {w lv dx hl sd : Addr} {L : List (Addr × Addr)} {rs : List Rch} {seen : List (Str × AV)} (n : H f = none) (X : LvAt H w lv dx hl sd L rs seen) : f ≠ lv ∧ f ≠ dx ∧ f ≠ hl ∧ f ≠ sd ∧ ∀ p ∈ L, f ≠ p.1 ∧ f ≠ p.2 :=
  ⟨ne1 n X.i, ne1 n X.d, ne1 n X.l, ne1 n X.s, fun p m => by
    obtain ⟨r, _, h1, h2⟩ := X.r.memL m
    exact ⟨ne1 n h1, ne1 n h2⟩⟩
section
variable {c : Cfg} {k : Nat} {H : AH}
set_option maxRecDepth 100000 in
theorem c_own_methodsS {H₀ : AH} {w : Addr} {M : Mdl} {p : Str} {s : Strct} {Q : AV → AH → Prop} (V : WorldAt H₀ w M) (S : Sub H₀ H) (hp : M p = some s) (q : ∀ md, H₀ md = some (.dict s.dict) → Q (.ref md) H) :
    Cl c (k + 1) (.ref 102) [.ref w, named p] H Q := by
  obtain ⟨dx, nd, l, F, e1, e2, e3, e6, e4, e5⟩ := V
  obtain ⟨r, hr, dx', md, a, b, f1, f2, f3⟩ := e5 p s hp
  refine Cl_fn ["world", "told"] (fun P => rfl) (fun P => rfl) (fun vs h => ?_) ?_ ?_ (fun L fs => ?_)
  · obtain ⟨a, b, rfl⟩ := len2 h; rfl
  · decide
  · decide
  · refine W_execs_cons ?_
    repeat walk_at "s"
    refine ifT (by decide) ?_
    repeat walk_at "s"
    refine W_attr (S _ _ e1) (S _ _ e2) e3 (fun P => rfl) rfl ?_
    repeat walk_at "s"
    refine W_item_dict (S _ _ e4) hr ?_
    refine W_attr (S _ _ f1) (S _ _ f2) rfl (fun P => rfl) rfl ?_
    repeat walk_at "s"
    exact q md f3
set_option maxRecDepth 100000 in
set_option maxHeartbeats 2000000 in
theorem c_names {w : Addr} {M : Mdl} {p : Str} {N : Nat} {B : List Str} {Q : AV → AH → Prop} (V : WorldAt H w M) (G : LvOk M p N) (hB : B.length < 64) (hK : ∀ i, i < N → ∀ r ∈ (lvl M p i).2, ∀ m ∈ (strOf M r.path).mths, m.1 ∈ B)
    (q : ∀ (b : Addr) (ks : List Str) H', Sub H H' → H b = none → ks.Perm ((namesFrom M N (lvl M p 0) []).map (·.1)) → H' b = some (.list (ks.map .str)) → Q (.ref b) H') : Cl c (k + 8) (.ref 163) [.ref w, named p] H Q := by
  refine Cl_fn ["world", "told"] (fun P => rfl) (fun P => rfl) (fun vs h => ?_) ?_ ?_ (fun F fs => ?_)
  · obtain ⟨a, b, rfl⟩ := len2 h; rfl
  · decide
  · decide
  · refine W_execs_cons ?_
    refine W_Assign_Swap ["levels", "found"] ?_
    repeat walk_at "s"
    refine c_mkLevels fun lv dx hl sd r rx H₁ S₁ X₁ n1 n2 n3 => ?_
    repeat walk_at "s"
    refine W_Dict0 fun fd nfd => ?_
    repeat walk_at "s"
    refine ⟨_, rfl, rfl, ?_⟩
    repeat walk_at "s"
    have nfH : H fd = none := S₁.none nfd
    obtain ⟨u1, u2, -, u4, -⟩ := X₁.new nfd
    let J1 : JW := fun n am H' => ∃ i hl L D, A11 (n + i = N) (am "world" = some (.ref w)) (am "levels" = some (.ref lv)) (am "found" = some (.ref fd)) (Sub H H') (LvAt H' w lv dx hl sd L (lvl M p i).2 (lvl M p i).1) (H hl = none) (H' fd = some (.dict D)) (fd ≠ hl) (KeysIn B D) (namesFrom M n (lvl M p i) D = namesFrom M N (lvl M p 0) [])
    refine W_While J1 N
      ⟨0, hl, _, [], rfl, rfl, rfl, rfl, S₁.add nfd, X₁.sub (Sub.upd nfd), n2, upd_same .., ne1 nfd X₁.l, ⟨List.nodup_nil, by simp⟩, rfl⟩ ?_
    clear X₁ S₁ nfd n2 hl r rx
    rintro n am H₂ ⟨i, hl, L, D, hi, m1, m2, m3, S₂, X₂, n2, hfd, u3, hD, he⟩
    repeat walk_at "s"
    refine W_attr X₂.i X₂.d rfl (fun P => rfl) rfl ?_
    repeat walk_at "s"
    refine W_newList fun nb nnb => ?_
    have X₃ := X₂.sub (Sub.upd (o := .list []) nnb)
    have S₃ : Sub H (upd H₂ nb (.list [])) := S₂.add nnb
    replace hfd := upd_old (o := .list []) nnb hfd
    refine W_ne_nil X₃.l (upd_same ..) ?_
    generalize upd H₂ nb (.list []) = H₃ at X₃ S₃ hfd ⊢
    clear X₂ S₂ nnb nb H₂
    repeat walk_at "s"
    have hLr := X₃.r.len
    cases n with
    | zero =>
      have hiN : i = N := by lia
      subst hiN
      have e0 : L = [] := by rw [G.ends] at hLr; exact List.eq_nil_of_length_eq_zero hLr.symm
      subst e0
      refine ifF rfl ?_
      repeat walk_at "s"
      refine S_CallB (id := "sorted") rfl rfl rfl (by decide) rfl rfl rfl (fun _ => rfl) (by decide +kernel) (by decide) ?_
      repeat walk_at "s"
      refine W_sortedDict hfd (by have := hD.le; lia) fun b ks nb hp => ?_
      repeat walk_at "s"
      refine q b ks _ (S₃.add nb) (S₃.none nb) ?_ (upd_same ..)
      rw [← he]; exact hp
    | succ n =>
      have hiN : i < N := by lia
      have hne : L ≠ [] := by rintro rfl; exact G.goes i hiN (List.eq_nil_of_length_eq_zero hLr)
      refine ifT (by cases L with | nil => exact absurd rfl hne | cons _ _ => rfl) ?_
      refine W_execs_cons ?_
      have hknows := G.knows i hiN
      have hKi := hK i hiN
      let J2 : JF := fun as own j am H' => A8 (as = L.map (fun p => .ref p.1)) (own = some (hl, .list (L.map fun p => .ref p.1))) (am "world" = some (.ref w)) (am "levels" = some (.ref lv)) (am "found" = some (.ref fd)) (But fd (del H₃ hl) H') (H' fd = some (.dict (namesLv M D ((lvl M p i).2.take j)))) (KeysIn B (namesLv M D ((lvl M p i).2.take j)))
      refine W_ForH J2 (WI_list ?_)
      repeat walk_at "s"
      refine W_attr X₃.i X₃.d rfl (fun P => rfl) rfl ?_
      refine ⟨_, _, rfl, X₃.l, ⟨rfl, rfl, m1, m2, m3, .refl, by rw [del_ne u3]; exact hfd, hD⟩, ?_, ?_⟩
      · rintro j a am' H' ha ⟨-, -, m1, m2, m3, K, hf, hDj⟩
        intro Q' hQ'
        obtain ⟨pr, hp, rfl⟩ := Option.map_eq_some_iff.mp (List.getElem?_map .. ▸ ha)
        obtain ⟨r, hr, g1, g2⟩ := X₃.r.getL hp
        obtain ⟨st, hst, hsz⟩ := hknows r (List.mem_of_getElem? hr)
        have hKr := hKi r (List.mem_of_getElem? hr)
        rw [strOf_some hst] at hKr
        refine W_aName ?_
        repeat walk_at "s"
        have d1 : Sub H (del H₃ hl) := fun a o e => by rw [del_ne (ne2 n2 e)]; exact S₃ a o e
        have d2 : Sub H H' := fun a o e => K a o (d1 a o e) (ne2 nfH e)
        obtain ⟨dx', nd, l, F', e1, e2, e3, e6, e4, e5⟩ := id (V.sub d2)
        have R0 : ReachedAt (del H₃ hl) pr.1 r := (show ReachedAt H₃ pr.1 r from ⟨_, g1, g2⟩).del X₃.l
        have R1 : ReachedAt H' pr.1 r := by
          obtain ⟨rx, r1, r2⟩ := R0
          have q1 : ∀ {b o}, del H₃ hl b = some o → (∀ l, o ≠ .dict l) → b ≠ fd := fun {b o} e n => by
            rintro rfl; rw [del_ne u3, hfd] at e; cases e; exact n _ rfl
          exact ⟨rx, K _ _ r1 (q1 r1 (by simp)), K _ _ r2 (q1 r2 (by simp))⟩
        obtain ⟨rx, r1, r2⟩ := R1
        refine WM_def (f := 240) e1 e2 e6 (fun P => rfl) (fun P => rfl) ?_
        repeat walk_at "s"
        refine W_attr r1 r2 rfl (fun P => rfl) rfl ?_
        repeat walk_at "s"
        refine c_base_of (V.sub d2) hst ?_
        repeat walk_at "s"
        let J3 : JF := fun as own i2 am H'' => A8 (as = st.dict.map (fun p => .str p.1)) ((∃ md, own = some (md, .dict st.dict) ∧ H' md = some (.dict st.dict) ∧ fd ≠ md ∧ But fd (del H' md) H'')) (am "world" = some (.ref w)) (am "levels" = some (.ref lv)) (am "found" = some (.ref fd)) (am "base" = some (under st)) (H'' fd = some (.dict (addNames (namesLv M D ((lvl M p i).2.take j)) (st.mths.take i2)))) (KeysIn B (addNames (namesLv M D ((lvl M p i).2.take j)) (st.mths.take i2)))
        refine W_ForH J3 (WI_dict ?_)
        with_reducible refine W_hide fun R' hR' => ?_
        repeat walk_at "s"
        refine W_attr r1 r2 rfl (fun P => rfl) rfl ?_
        repeat walk_at "s"
        refine c_own_methodsS V d2 hst fun md hmd => ?_
        have nfm : fd ≠ md := ne1 nfH hmd
        refine hR' _ _ _ ?_
        refine ⟨_, _, rfl, d2 _ _ hmd, ⟨rfl, ⟨md, rfl, d2 _ _ hmd, nfm, .refl⟩, m1, m2, m3, rfl, by rw [del_ne nfm]; exact hf, hDj⟩, ?_, ?_⟩
        · rintro i2 a am₂ H'' ha ⟨-, ⟨md, e1, hmd, nfm, K2⟩, m1, m2, m3, m4, hf2, hD2⟩
          intro Q' hQ'
          obtain ⟨en, hen, rfl⟩ := Option.map_eq_some_iff.mp (List.getElem?_map .. ▸ ha)
          obtain ⟨mm, hmm, rfl⟩ := dict_get hen
          refine W_aName ?_
          repeat walk_at "s"
          refine W_setItem_dict hf2 (by have := hD2.le; lia) ?_
          repeat walk_at "s"
          refine ⟨rfl, ⟨md, e1, hmd, nfm, K2.upd⟩, m1, m2, m3, m4, ?_, ?_⟩
          · rw [upd_same, addNames_next hmm]
          · rw [addNames_next hmm]; exact hD2.store (hKr _ (List.mem_of_getElem? hmm))
        · rintro am₂ H'' ⟨-, ⟨md', e1, hmd', nfm', K2⟩, m1, m2, m3, m4, hf2, hD2⟩
          have emd : md' = md := by have := Option.some.inj e1; exact (congrArg Prod.fst this).symm
          subst emd
          repeat walk_at "s"
          have K3 := But.back hmd' K2
          have hf3 : restore (some (md', AO.dict st.dict)) H'' fd = some (.dict (addNames (namesLv M D ((lvl M p i).2.take j)) st.mths)) := by
            rw [restore_ne nfm']
            have := hf2
            rw [List.length_map, show st.dict.length = st.mths.length from List.length_map _, List.take_length] at this
            exact this
          rw [List.length_map, show st.dict.length = st.mths.length from List.length_map _, List.take_length] at hD2
          generalize restore (some (md', AO.dict st.dict)) H'' = H₅ at K3 hf3 ⊢
          let J4 : JF := fun as own i am H'' => A4 (as = []) (own = none) (am = am₂) (H'' = H₅)
          refine W_ForH J4 (WI_tuple ?_)
          with_reducible refine W_hide fun R' hR' => ?_
          repeat walk_at "s"
          refine ifF (by decide) ?_
          repeat walk_at "s"
          refine hR' _ _ _ ?_
          refine ⟨[], rfl, ⟨rfl, rfl, rfl, rfl⟩, ?_, ?_⟩
          · rintro i a am H'' ha _
            simp at ha
          · rintro am H'' ⟨-, -, rfl, rfl⟩
            repeat walk_at "s"
            refine ⟨rfl, rfl, m1, m2, m3, K.trans K3, ?_, ?_⟩
            · rw [namesLv_next hr, strOf_some hst]; exact hf3
            · rw [namesLv_next hr, strOf_some hst]; exact hD2
      · rintro am' H' ⟨-, -, m1, m2, m3, K, hf, hDj⟩
        repeat walk_at "s"
        rw [List.length_map, ← hLr, List.take_length] at hf hDj
        have K5 := But.back X₃.l K
        have hf5 : restore (some (hl, AO.list (L.map fun p => AV.ref p.1))) H' fd = some (.dict (namesLv M D (lvl M p i).2)) := by
          rw [restore_ne u3]; exact hf
        generalize restore (some (hl, AO.list (L.map fun p => AV.ref p.1))) H' = H₅ at K5 hf5 ⊢
        have S5 : Sub H H₅ := fun a o e => K5 a o (S₃ a o e) (ne2 nfH e)
        have X5 := X₃.but K5 u1 u2 u3 u4 fun pr m => by
          obtain ⟨r, _, h1, h2⟩ := X₃.r.memL m
          exact ⟨(by rintro rfl; rw [hfd] at h1; cases h1), (by rintro rfl; rw [hfd] at h2; cases h2)⟩
        refine WM_def0 (f := 135) X5.i X5.d rfl (fun P => rfl) (fun P => rfl) ?_
        refine c_go_on V S5 n1 n2 n3 X5 (G.knows i hiN) (G.short i hiN) (G.few i hiN) (G.seen i hiN) fun hl' L' H₇ K7 X7 n7 => ?_
        repeat walk_at "s"
        refine ⟨n, Nat.lt_succ_self n, i + 1, hl', L', _, by lia, m1, m2, m3, fun a o e => K7 a o (S5 a o e) (ne2 n1 e) (ne2 n3 e), X7, S5.none n7, K7 _ _ hf5 u2 u4, ?_, hDj, he⟩
        exact ne2 n7 hf5
end
noncomputable def stepPtr : AV → Bool
  | .tup [_, .at (.bool b)] => b
  | _ => false
noncomputable def StepsOk (l : List AV) : Prop := ∀ x ∈ l, ∃ (i : Int) (b : Bool), x = .tup [.int i, .bool b]
section
variable {c : Cfg} {k : Nat} {H : AH}
set_option maxRecDepth 100000 in
set_option maxHeartbeats 1000000 in
theorem c_is_in_set {t : Str} {y : AV} {steps : List AV} {m : Mth} {Q : AV → AH → Prop} (hs : StepsOk steps) (hz : steps.length ≤ 1000) (q : ∀ H', Sub H H' → Q (.bool (!m.ptr || decide (t = "ptr") || steps.any stepPtr)) H') :
    Cl c (k + 8) (.ref 175) [.tup [.str t, y], methAv steps m] H Q := by
  unfold methAv
  refine Cl_fn ["told", "member"] (fun P => rfl) (fun P => rfl) (fun vs h => ?_) ?_ ?_ (fun L fs => ?_)
  · obtain ⟨a, b, rfl⟩ := len2 h; rfl
  · decide
  · decide
  · refine W_execs_cons ?_
    repeat walk_at "s"
    refine ifF (by decide) ?_
    repeat walk_at "s"
    cases hp : m.ptr with
    | false =>
      rw [hp] at q
      refine ifT rfl ?_
      repeat walk_at "s"
      refine ifT rfl ?_
      repeat walk_at "s"
      exact q H (Sub.refl _)
    | true =>
      rw [hp] at q
      refine ifF rfl ?_
      repeat walk_at "s"
      refine ifF rfl ?_
      repeat walk_at "s"
      refine W_Or2 ?_
      repeat walk_at "s"
      by_cases ht : t = "ptr"
      · refine ifT (decide_eq_true ht) ?_
        have := q H (Sub.refl _)
        rw [decide_eq_true ht] at this ⊢
        exact this
      · refine ifF (decide_eq_false ht) ?_
        rw [decide_eq_false ht] at q
        repeat walk_at "s"
        let J1 : JL := fun as own D i acc H' => A4 (as = steps) (own = none) (Sub H H') (acc = (steps.take i).filter stepPtr)
        refine W_ListComp J1 (WI_tuple ?_)
        repeat walk_at "s"
        refine ⟨steps, rfl, by lia, fun D nD => ⟨⟨rfl, rfl, Sub.upd nD, rfl⟩, ?_, ?_⟩⟩
        · rintro i a acc C H'' ha hD ⟨-, -, S, hacc⟩
          obtain ⟨j, b, rfl⟩ := hs a (List.mem_of_getElem? ha)
          refine W_tests1 ?_
          repeat walk_at "s"
          have e : (steps.take (i + 1)).filter stepPtr = (steps.take i).filter stepPtr ++ (if b then [.tup [.int j, .bool b]] else []) := by
            rw [take_next ha, List.filter_append]
            cases b <;> rfl
          cases b with
          | true =>
            refine ifT rfl ?_
            repeat walk_at "s"
            refine ⟨hD, rfl, rfl, S.over nD, ?_⟩
            rw [e, hacc]; rfl
          | false =>
            refine ifF rfl ?_
            refine ⟨hD, rfl, rfl, S, ?_⟩
            rw [e, hacc]; simp
        · rintro acc H'' hD ⟨-, -, S, hacc⟩
          show W _ _ _ _ _ _ _ H'' _
          repeat walk_at "s"
          refine W_newList fun nb nnb => ?_
          refine W_ne_nil (upd_old nnb hD) (upd_same ..) ?_
          repeat walk_at "s"
          rw [List.take_length] at hacc
          have := q _ (S.add (o := .list []) nnb)
          have e : (!acc.isEmpty) = (!true || false || steps.any stepPtr) := by
            rw [hacc]
            simp only [Bool.not_true, Bool.false_or]
            rw [Bool.eq_iff_iff]
            simp [List.isEmpty_iff]
          rw [e]; exact this
end
/-- what method_set keeps of a member -/
noncomputable def entryOf (pt : Bool) : AV → Option AV
  | .tup [.str kd, .tup steps, key, .at (.bool ptr), func] => if decide (kd = "method") && (!ptr || pt || steps.any stepPtr) then some (.tup [.tup steps, key, func]) else none
  | _ => none
theorem entryOf_meth {pt : Bool} {steps : List AV} {m : Mth} : entryOf pt (methAv steps m) = if !m.ptr || pt || steps.any stepPtr then some (.tup [.tup steps, m.key, m.func]) else none := by
  unfold methAv entryOf
  simp
noncomputable def msStep (pt : Bool) (F : Str → AV) (D : List (Str × AV)) (n : Str) : List (Str × AV) := match entryOf pt (F n) with
  | some e => storeA D n e
  | none => D
noncomputable def msOf (pt : Bool) (F : Str → AV) (ks : List Str) : List (Str × AV) := ks.foldl (msStep pt F) []
noncomputable def ptOf : AV → Bool
  | .tup (.str t :: _) => decide (t = "ptr")
  | _ => false
noncomputable def MemberOk (a : AV) : Prop := a = .none ∨ (∃ st ty, a = .tup [.str "field", .tup st, ty]) ∨ ∃ st m, a = methAv st m ∧ StepsOk st ∧ st.length ≤ 1000
theorem msOf_next {pt : Bool} {F : Str → AV} {ks : List Str} {i : Nat} {n : Str} (e : ks[i]? = some n) : msOf pt F (ks.take (i + 1)) = msStep pt F (msOf pt F (ks.take i)) n := by
  rw [take_next e]; simp only [msOf, List.foldl_append, List.foldl_cons, List.foldl_nil]
theorem KeysIn.ms {B : List Str} {pt : Bool} {F : Str → AV} {D : List (Str × AV)} {n : Str} (k : KeysIn B D) (h : n ∈ B) : KeysIn B (msStep pt F D n) := by
  unfold msStep
  split
  · exact k.store h
  · exact k
theorem KeysIn.from_ {M : Mdl} {p : Str} {N : Nat} {B : List Str} (hK : ∀ i, i < N → ∀ r ∈ (lvl M p i).2, ∀ m ∈ (strOf M r.path).mths, m.1 ∈ B) : ∀ {n i : Nat} {D : List (Str × AV)}, n + i = N → KeysIn B D → KeysIn B (namesFrom M n (lvl M p i) D)
  | 0, _, _, _, k => k
  | n + 1, i, D, e, k => KeysIn.from_ hK (n := n) (i := i + 1) (by lia) (k.lv (hK i (by lia)))
section
variable {c : Cfg} {k : Nat} {H : AH}
set_option maxRecDepth 100000 in
set_option maxHeartbeats 2000000 in
theorem c_method_set {w : Addr} {M : Mdl} {p : Str} {told : AV} {N : Nat} {B : List Str} {Q : AV → AH → Prop} (V : WorldAt H w M) (ht : told = named p ∨ told = .tup [.str "ptr", named p]) (G : LvOk M p N) (hM : ∃ s, M p = some s) (hB : B.length < 64) (hBl : ∀ x ∈ B, x.length ≤ 1000)
    (hK : ∀ i, i < N → ∀ r ∈ (lvl M p i).2, ∀ m ∈ (strOf M r.path).mths, m.1 ∈ B) (hF : ∀ x ∈ B, MemberOk (findAt M p x N).av)
    (q : ∀ (fd : Addr) (ks : List Str) H', Sub H H' → H fd = none → ks.Perm ((namesFrom M N (lvl M p 0) []).map (·.1)) → H' fd = some (.dict (msOf (ptOf told) (fun x => (findAt M p x N).av) ks)) → Q (.ref fd) H') : Cl c (k + 10) (.ref 182) [.ref w, told] H Q := by
  obtain ⟨s, hs⟩ := hM
  refine Cl_fn ["world", "told"] (fun P => rfl) (fun P => rfl) (fun vs h => ?_) ?_ ?_ (fun F fs => ?_)
  · obtain ⟨a, b, rfl⟩ := len2 h; rfl
  · decide
  · decide
  · refine W_execs_cons ?_
    refine W_Assign_Swap ["begun", "found"] ?_
    repeat walk_at "s"
    have st : ∀ {Q : AV → AH → Prop}, Q (.tup [named p, .bool false]) H → Cl c (k + 9) (.ref 149) [.ref w, told] H Q := fun {Q} qq => by
      rcases ht with rfl | rfl
      · exact c_start_named V hs qq
      · exact c_start_ptr V hs qq
    refine st ?_
    repeat walk_at "s"
    refine W_Dict0 fun fd nfd => ?_
    repeat walk_at "s"
    refine ⟨_, rfl, rfl, ?_⟩
    repeat walk_at "s"
    try (refine W_is_none ?_)
    repeat walk_at "s"
    refine ifF rfl ?_
    repeat walk_at "s"
    refine ifF rfl ?_
    repeat walk_at "s"
    refine ifF rfl ?_
    repeat walk_at "s"
    have V₁ : WorldAt (upd H fd (.dict [])) w M := V.sub (Sub.upd nfd)
    let J1 : JF := fun as own i am H' => ∃ (b : Addr) (ks : List Str), A11 (as = ks.map AV.str) (own = some (b, .list (ks.map .str))) (ks.Perm ((namesFrom M N (lvl M p 0) []).map (·.1))) (am "world" = some (.ref w)) (am "told" = some told) (am "found" = some (.ref fd)) (Sub H H') (H' fd = some (.dict (msOf (ptOf told) (fun x => (findAt M p x N).av) (ks.take i)))) (fd ≠ b) (H b = none) (KeysIn B (msOf (ptOf told) (fun x => (findAt M p x N).av) (ks.take i)))
    refine W_ForH J1 (WI_list ?_)
    repeat walk_at "s"
    refine c_names V₁ G hB hK fun b ks H₁ S₁ nb hp hb => ?_
    obtain ⟨nbf, nbH⟩ := upd_none.mp nb
    have S1 : Sub H H₁ := (Sub.upd nfd).trans S₁
    refine ⟨b, _, rfl, hb, ⟨b, ks, rfl, rfl, hp, rfl, rfl, rfl, fun a o e => ?_, ?_, nbf.symm, nbH, ⟨List.nodup_nil, by simp [msOf]⟩⟩, ?_, ?_⟩
    · rw [del_ne (ne2 nbH e)]; exact S1 a o e
    · rw [del_ne nbf.symm]; exact S₁ _ _ (upd_same ..)
    · rintro i a am H' ha ⟨b', ks', e1, e2, hp', m1, m2, m3, S, hfd, nfb, nbH', hD⟩
      intro Q' hQ'
      rw [e1] at ha
      obtain ⟨x, hx, rfl⟩ := Option.map_eq_some_iff.mp (List.getElem?_map .. ▸ ha)
      have hxB : x ∈ B := by
        have hk : KeysIn B (namesFrom M N (lvl M p 0) []) := KeysIn.from_ hK (Nat.add_zero N) ⟨List.nodup_nil, by simp⟩
        exact hk.2 x (hp'.mem_iff.mp (List.mem_of_getElem? hx))
      refine W_aName ?_
      repeat walk_at "s"
      refine c_member_or_none (V.sub S) ht G ⟨s, hs⟩ (hBl x hxB) fun H₂ S₂ => ?_
      repeat walk_at "s"
      have hfd2 := S₂ _ _ hfd
      have S3 := S.trans S₂
      have nxt := msOf_next (pt := ptOf told) (F := fun x => (findAt M p x N).av) hx
      have hok := hF x hxB
      rcases hok with e | ⟨st, ty, e⟩ | ⟨st, m, e, hst, hlen⟩
      · rw [e]
        try (refine W_isNot_none ?_)
        repeat walk_at "s"
        refine ifF rfl ?_
        refine ifF rfl ?_
        repeat walk_at "s"
        refine ⟨b', ks', e1, e2, hp', m1, m2, m3, S3, ?_, nfb, nbH', ?_⟩
        · rw [nxt]; unfold msStep; simp only [e]; exact hfd2
        · rw [nxt]; exact hD.ms hxB
      · rw [e]
        try (refine W_isNot_none ?_)
        repeat walk_at "s"
        refine ifT rfl ?_
        repeat walk_at "s"
        refine ifF (by decide) ?_
        refine ifF rfl ?_
        repeat walk_at "s"
        refine ⟨b', ks', e1, e2, hp', m1, m2, m3, S3, ?_, nfb, nbH', ?_⟩
        · rw [nxt]; unfold msStep; simp only [e]; exact hfd2
        · rw [nxt]; exact hD.ms hxB
      · have e' := e
        unfold methAv at e
        rw [e]
        try (refine W_isNot_none ?_)
        repeat walk_at "s"
        refine ifT rfl ?_
        repeat walk_at "s"
        refine ifT (by decide) ?_
        repeat walk_at "s"
        have iis : ∀ {Q : AV → AH → Prop}, (∀ H', Sub H₂ H' → Q (.bool (!m.ptr || ptOf told || st.any stepPtr)) H') → Cl c (k + 9) (.ref 175) [told, methAv st m] H₂ Q := fun {Q} qq => by
          rcases ht with rfl | rfl
          · exact c_is_in_set hst hlen qq
          · exact c_is_in_set hst hlen qq
        refine iis fun H₃ S₃ => ?_
        repeat walk_at "s"
        have hfd3 := S₃ _ _ hfd2
        have S4 := S3.trans S₃
        cases hin : (!m.ptr || ptOf told || st.any stepPtr) with
        | false =>
          refine ifF rfl ?_
          refine ifF rfl ?_
          repeat walk_at "s"
          refine ⟨b', ks', e1, e2, hp', m1, m2, m3, S4, ?_, nfb, nbH', ?_⟩
          · rw [nxt]; unfold msStep; simp only [e', entryOf_meth, hin]; exact hfd3
          · rw [nxt]; exact hD.ms hxB
        | true =>
          refine ifT rfl ?_
          repeat walk_at "s"
          refine ifT rfl ?_
          repeat walk_at "s"
          refine ifT (by decide) ?_
          repeat walk_at "s"
          try (refine W_UnaryOp ?_)
          repeat walk_at "s"
          try (refine W_neg_int ?_)
          refine W_item_tup (j := 4) rfl rfl ?_
          repeat walk_at "s"
          refine W_setItem_dict hfd3 (by have := hD.le; lia) ?_
          repeat walk_at "s"
          refine ⟨b', ks', e1, e2, hp', m1, m2, m3, S4.over nfd, ?_, nfb, nbH', ?_⟩
          · rw [upd_same, nxt]; unfold msStep; simp only [e', entryOf_meth, hin]; rfl
          · rw [nxt]; exact hD.ms hxB
    · rintro am H' ⟨b', ks', e1, e2, hp', m1, m2, m3, S, hfd, nfb, nbH', hD⟩
      have eb : b = b' := congrArg Prod.fst (Option.some.inj e2)
      subst eb
      repeat walk_at "s"
      have hl : (ks.map AV.str).length = ks'.length := by rw [e1, List.length_map]
      rw [hl, List.take_length] at hfd
      refine q fd ks' _ (fun a o e => ?_) nfd hp' ?_
      · rw [restore_ne (ne2 nbH e)]; exact S a o e
      · rw [restore_ne nfb]; exact hfd
end
theorem set_next {H Hc : AH} {x dx C : Addr} {fs : List (Str × AV)} (nx : x ≠ dx) (hx : Hc x = some (.inst C dx)) (K : But dx H Hc) : But dx H (upd Hc dx (.idict fs)) ∧ upd Hc dx (.idict fs) x = some (.inst C dx) ∧ upd Hc dx (.idict fs) dx = some (.idict fs) :=
  ⟨K.upd, by rw [upd_ne nx]; exact hx, upd_same ..⟩
theorem add_next {H Hc : AH} {x dx C d : Addr} {o : AO} {fs : List (Str × AV)} (nd : Hc d = none) (hx : Hc x = some (.inst C dx)) (hd : Hc dx = some (.idict fs)) (K : But dx H Hc) : But dx H (upd Hc d o) ∧ upd Hc d o x = some (.inst C dx) ∧ upd Hc d o dx = some (.idict fs) :=
  ⟨K.add nd, upd_old nd hx, upd_old nd hd⟩
theorem merge_le : ∀ {l acc : List (Str × AV)}, (l.foldl (fun acc p => storeA acc p.1 p.2) acc).length ≤ acc.length + l.length
  | [], _ => Nat.le_refl _
  | p :: l, acc => by
    have := @merge_le l (storeA acc p.1 p.2)
    have := @storeA_le acc p.1 p.2
    simp only [List.foldl_cons, List.length_cons] at *
    lia
theorem mergeA_le {l : List (Str × AV)} : (mergeA l).length ≤ l.length := by
  have := @merge_le l []
  rw [List.length_nil, Nat.zero_add] at this
  exact this
section
variable {c : Cfg} {k : Nat} {H : AH}
set_option maxRecDepth 100000 in
theorem c_NamedRow {path pk und md : AV} {x dx : Addr} {Q : AV → AH → Prop} (hx : H x = some (.inst 207 dx)) (hd : H dx = some (.idict []))
   (q : Q .none (upd H dx (.idict [("path", path), ("package", pk), ("underlying", und), ("methods", md)]))) :
    Cl c (k + 1) (.ref 204) [.ref x, path, pk, und, md] H Q := by
  refine Cl_fn ["self", "path", "package", "underlying", "methods"] (fun P => rfl) (fun P => rfl) (fun vs h => ?_) ?_ ?_ (fun L fs => ?_)
  · obtain ⟨a, b, d, e, f, rfl⟩ := len5 h; rfl
  · decide
  · decide
  · have nx : x ≠ dx := by rintro rfl; rw [hd] at hx; cases hx
    refine W_execs_cons ?_
    repeat walk_at "s"
    refine W_setAttr hx hd (fun P => rfl) ?_
    repeat walk_at "s"
    refine W_setAttr (by rw [upd_ne nx]; exact hx) (upd_same ..) (fun P => rfl) ?_
    repeat walk_at "s"
    refine W_setAttr (by rw [upd_ne nx, upd_ne nx]; exact hx) (upd_same ..) (fun P => rfl) ?_
    repeat walk_at "s"
    refine W_setAttr (by rw [upd_ne nx, upd_ne nx, upd_ne nx]; exact hx) (upd_same ..) (fun P => rfl) ?_
    repeat walk_at "s"
    rw [upd_upd, upd_upd, upd_upd]
    exact q
/-- NamedRow(path, package, underlying, methods) -/
theorem c_mkRow {path pk und md : AV} {Q : AV → AH → Prop} (q : ∀ x dx, H x = none → H dx = none → x ≠ dx → Q (.ref x) (upd (upd H x (.inst 207 dx)) dx (.idict [("path", path), ("package", pk), ("underlying", und), ("methods", md)]))) :
    Cl c (k + 2) (.ref 207) [path, pk, und, md] H Q := by
  refine Cl_make (fI := 204) (fun P => rfl) (fun P => rfl) (fun P => rfl) fun x dx hx hd nx => ?_
  refine c_NamedRow (upd_same ..) (by rw [upd_ne nx.symm, upd_same]) ⟨rfl, ?_⟩
  rw [upd_over]; exact q x dx hx hd nx
noncomputable abbrev plainA : AV := .tup [.str "func", .tup [], .tup [], .bool false]
theorem plain_R (h : Heap) (P : Params) (X : (KK P).In h) : VR h plainA (.ref 190) := by
  refine ⟨190, [.str "func" 454, .ref 188, .ref 189, .bool false], rfl, ⟨_, X 190 _ rfl, rfl, _, rfl⟩, ?_⟩
  exact ⟨_, _, rfl, ⟨_, rfl⟩, _, _, rfl, ⟨188, [], rfl, ⟨_, X 188 _ rfl, rfl, _, rfl⟩, rfl⟩, _, _, rfl, ⟨189, [], rfl, ⟨_, X 189 _ rfl, rfl, _, rfl⟩, rfl⟩, _, _, rfl, rfl, rfl⟩
theorem sub_row {H₀ : AH} (S : Sub H₀ H) {x dx : Addr} {o o' : AO} (hx : H x = none) (hd : H dx = none) (n : x ≠ dx) : Sub H₀ (upd (upd H x o) dx o') := (S.add hx).add (by rw [upd_ne n.symm]; exact hd)
set_option maxRecDepth 100000 in
set_option maxHeartbeats 2000000 in
theorem c_known_rows {Q : AV → AH → Prop} (q : ∀ (d : Addr) (l : List (Str × AV)) H', Sub H H' → H d = none → H' d = some (.dict l) → l.length ≤ 4 → Q (.ref d) H') : Cl c (k + 3) (.ref 218) [] H Q := by
  refine Cl_fn [] (fun P => rfl) (fun P => rfl) (fun vs h => ?_) ?_ ?_ (fun L fs => ?_)
  · obtain rfl := List.eq_nil_of_length_eq_zero h; rfl
  · decide
  · decide
  · refine W_execs_cons ?_
    repeat walk_at "s"
    refine W_Dict ?_
    repeat walk_at "s"
    intro d1 n1
    generalize hg : upd H d1 _ = H1
    have S1 : Sub H H1 := by rw [← hg]; exact Sub.upd n1
    clear hg
    repeat walk_at "s"
    refine W_Dict ?_
    repeat walk_at "s"
    refine W_glob (fun _ => rfl) plain_R ?_
    repeat walk_at "s"
    refine W_glob (fun _ => rfl) plain_R ?_
    repeat walk_at "s"
    intro d2 n2
    generalize hg : upd H1 d2 _ = H2
    have S2 : Sub H H2 := by rw [← hg]; exact S1.add n2
    clear hg
    repeat walk_at "s"
    refine W_Dict ?_
    repeat walk_at "s"
    refine W_glob (fun _ => rfl) plain_R ?_
    repeat walk_at "s"
    refine W_glob (fun _ => rfl) plain_R ?_
    repeat walk_at "s"
    intro d3 n3
    generalize hg : upd H2 d3 _ = H3
    have S3 : Sub H H3 := by rw [← hg]; exact S2.add n3
    clear hg
    repeat walk_at "s"
    refine W_Dict ?_
    repeat walk_at "s"
    refine W_Dict0 fun d4 n4 => ?_
    have S4 : Sub H (upd H3 d4 (.dict [])) := S3.add n4
    generalize upd H3 d4 (.dict []) = H4 at S4 ⊢
    repeat walk_at "s"
    refine c_mkRow fun x dx hx hdx nx => ?_
    generalize hg : upd _ dx _ = H5
    have S5 : Sub H H5 := by rw [← hg]; exact sub_row S4 hx hdx nx
    clear hg
    repeat walk_at "s"
    refine c_mkRow fun x2 dx2 hx hdx nx => ?_
    generalize hg : upd _ dx2 _ = H6
    have S6 : Sub H H6 := by rw [← hg]; exact sub_row S5 hx hdx nx
    clear hg
    repeat walk_at "s"
    refine c_mkRow fun x3 dx3 hx hdx nx => ?_
    generalize hg : upd _ dx3 _ = H7
    have S7 : Sub H H7 := by rw [← hg]; exact sub_row S6 hx hdx nx
    clear hg
    repeat walk_at "s"
    refine c_mkRow fun x4 dx4 hx hdx nx => ?_
    generalize hg : upd _ dx4 _ = H8
    have S8 : Sub H H8 := by rw [← hg]; exact sub_row S7 hx hdx nx
    clear hg
    repeat walk_at "s"
    intro d n
    repeat walk_at "s"
    exact q d _ _ (S8.add n) (S8.none n) (upd_same ..) mergeA_le
end
theorem valA_store {l : List (Str × AV)} {x y : Str} {a : AV} : valA (storeA l x a) y = if y = x then some a else valA l y := by
  unfold storeA valA
  induction l with
  | nil =>
    by_cases z : y = x
    · subst z; simp
    · have : ¬ x = y := fun e => z e.symm
      simp [z, this]
  | cons p l ih =>
    by_cases hp : p.1 = x
    · have h1 : (p :: l).any (fun p => decide (p.1 = x)) = true := by simp [hp]
      rw [if_pos h1]
      by_cases z : y = x
      · subst z; simp [hp]
      · have z' : ¬ x = y := fun e => z e.symm
        rw [if_neg z]
        simp only [List.map_cons, hp, if_true, List.find?_cons, z', decide_false]
        have : ∀ l' : List (Str × AV), List.find? (fun p => decide (p.1 = y)) (l'.map fun p => if p.1 = x then (p.1, a) else p) = List.find? (fun p => decide (p.1 = y)) l' := by
          intro l'
          induction l' with
          | nil => rfl
          | cons q l' ih' =>
            simp only [List.map_cons, List.find?_cons]
            by_cases hq : q.1 = x
            · simp only [hq, if_true, z', decide_false]; exact ih'
            · simp only [hq, if_false]; rw [ih']
        rw [this]
    · have h1 : (p :: l).any (fun p => decide (p.1 = x)) = l.any (fun p => decide (p.1 = x)) := by simp [hp]
      rw [h1]
      by_cases hl : l.any (fun p => decide (p.1 = x)) = true
      · rw [if_pos hl] at ih ⊢
        simp only [List.map_cons, hp, if_false, List.find?_cons]
        by_cases hy : p.1 = y
        · have : ¬ y = x := fun e => hp (hy.trans e)
          simp [hy, this]
        · simp only [hy, decide_false]; exact ih
      · rw [if_neg hl] at ih ⊢
        simp only [List.cons_append, List.find?_cons]
        by_cases hy : p.1 = y
        · have : ¬ y = x := fun e => hp (hy.trans e)
          simp [hy, this]
        · simp only [hy, decide_false]; exact ih
theorem ndB_iff : ∀ {l : List Str}, l.Nodup → ndB l = true
  | [], _ => rfl
  | x :: l, h => by
    obtain ⟨h1, h2⟩ := List.nodup_cons.mp h
    simp only [ndB, Bool.and_eq_true, List.all_eq_true, Bool.not_eq_true', decide_eq_false_iff_not]
    exact ⟨fun y m e => h1 (e ▸ m), ndB_iff h2⟩
theorem ndB_store {l : List (Str × AV)} {x : Str} {a : AV} (h : ndB (l.map (·.1)) = true) : ndB ((storeA l x a).map (·.1)) = true := by
  refine ndB_iff ?_
  have h := ndB_of h
  unfold storeA
  split
  · have : (l.map fun p => if p.1 = x then (p.1, a) else p).map (·.1) = l.map (·.1) := by
      rw [List.map_map]; apply List.map_congr_left; intro p _; show (if p.1 = x then (p.1, a) else p).1 = p.1; split <;> rfl
    rw [this]; exact h
  · rename_i e
    rw [List.map_append]
    refine List.nodup_append.mpr ⟨h, by simp, fun y hy z hz => ?_⟩
    obtain ⟨p, hp, rfl⟩ := List.mem_map.mp hy
    simp only [List.map_cons, List.map_nil, List.mem_singleton] at hz
    subst hz
    intro e2
    exact e (List.any_eq_true.mpr ⟨p, hp, by simp [e2]⟩)
structure WB (H : AH) (x dx nm : Addr) (l F : List (Str × AV)) (m : Nat) (G : AH) : Prop where
  K : But dx H G
  hx : G x = some (.inst 250 dx)
  hd : G dx = some (.idict F)
  hv : valA F "named" = some (.ref nm)
  hb : valA F "base_of" = none
  hn : G nm = some (.dict l)
  nd : ndB (F.map (·.1)) = true
  hz : F.length ≤ m
theorem WB.add {H G : AH} {x dx nm m : Addr} {l F : List (Str × AV)} (T : WB H x dx nm l F m G) {a : Addr} {o : AO} (n : G a = none) : WB H x dx nm l F m (upd G a o) := by
  obtain ⟨K, h1, h2⟩ := add_next (o := o) n T.hx T.hd T.K
  exact ⟨K, h1, h2, T.hv, T.hb, upd_old n T.hn, T.nd, T.hz⟩
theorem WB.set {H G : AH} {x dx nm m : Addr} {l F : List (Str × AV)} (T : WB H x dx nm l F m G) {n : Str} {v : AV} (nx : x ≠ dx) (n1 : ("named" : Str) ≠ n) (n2 : ("base_of" : Str) ≠ n) : WB H x dx nm l (storeA F n v) (m + 1) (upd G dx (.idict (storeA F n v))) := by
  obtain ⟨K, h1, h2⟩ := set_next (fs := storeA F n v) nx T.hx T.K
  have nN : nm ≠ dx := by rintro rfl; have := T.hn; rw [T.hd] at this; cases this
  exact ⟨K, h1, h2, by rw [valA_store, if_neg n1]; exact T.hv, by rw [valA_store, if_neg n2]; exact T.hb, by rw [upd_ne nN]; exact T.hn, ndB_store T.nd, Nat.le_trans storeA_le (Nat.succ_le_succ T.hz)⟩
theorem WB.room {H G : AH} {x dx nm m : Addr} {l F : List (Str × AV)} (T : WB H x dx nm l F m G) (h : m ≤ 900) : Nat.ble F.length 900 = true := Nat.ble_eq.mpr (Nat.le_trans T.hz h)
section
variable {c : Cfg} {k : Nat} {H : AH}
set_option maxRecDepth 100000 in
set_option maxHeartbeats 2000000 in
theorem c_World {x dx : Addr} {Q : AV → AH → Prop} (hx : H x = some (.inst 250 dx)) (hd : H dx = some (.idict []))
    (q : ∀ (nd : Addr) (l F : List (Str × AV)) H', But dx H H' → H nd = none → H' nd = some (.dict l) → l.length ≤ 4 → H' x = some (.inst 250 dx) → H' dx = some (.idict F) → valA F "named" = some (.ref nd) → valA F "base_of" = none → Q .none H') :
    Cl c (k + 4) (.ref 233) [.ref x] H Q := by
  refine Cl_fnG (as' := [.ref x, .none]) ["self", "packages"] (fun P => rfl) (fun P => rfl) (fun s vs X r => ⟨vs ++ [.none], ?_, VRs.append r (by exact ⟨_, _, rfl, rfl, rfl⟩)⟩) ?_ ?_ (fun L fs => ?_)
  · obtain ⟨a, rfl⟩ := len1 r.length; exact BindsTo.of_defaults rfl (X 226 _ rfl) rfl rfl rfl
  · decide
  · decide
  · have nx : x ≠ dx := by rintro rfl; rw [hd] at hx; cases hx
    refine W_execs_cons ?_
    repeat walk_at "s"
    refine W_setAttr hx hd (fun P => rfl) ?_
    obtain ⟨K0, hx0, hd0⟩ := set_next (fs := [("packages", AV.none)]) nx hx (But.refl (f := dx) (H := H))
    generalize hG : upd H dx (.idict [("packages", .none)]) = H0 at K0 hx0 hd0
    rw [show upd H dx (.idict (storeA [] (Str.ofString "packages") .none)) = H0 from hG]
    clear hG
    repeat walk_at "s"
    refine c_known_rows fun nm l G1 S1 nN hN hN4 => ?_
    have hd0' := hd0
    have K0' := K0
    have K0 : But dx H G1 := fun a o e n => S1 _ _ (K0 a o e n)
    have hx0 := S1 _ _ hx0
    have hd0 := S1 _ _ hd0
    have nNH : H nm = none := by
      cases e : H nm with
      | none => rfl
      | some o =>
        have := K0' nm o e (by rintro rfl; rw [nN] at hd0'; cases hd0')
        rw [nN] at this; cases this
    repeat walk_at "s"
    refine W_setAttr hx0 hd0 (fun P => rfl) ?_
    obtain ⟨K1, hx1, hd1⟩ := set_next (fs := [("packages", AV.none), ("named", (AV.ref nm))]) nx hx0 K0
    have nN1 : nm ≠ dx := by rintro rfl; rw [hN] at hd0; cases hd0
    have hN : upd G1 dx (.idict [("packages", AV.none), ("named", (AV.ref nm))]) nm = some (.dict l) := by rw [upd_ne nN1]; exact hN
    generalize hG : upd G1 dx (.idict [("packages", AV.none), ("named", (AV.ref nm))]) = H1 at K1 hx1 hd1 hN
    rw [show upd G1 dx (.idict (storeA [("packages", AV.none)] (Str.ofString "named") (.ref nm))) = H1 from hG]
    clear hG K0 hx0 hd0
    have T : WB H x dx nm l [("packages", AV.none), ("named", (AV.ref nm))] 2 H1 := ⟨K1, hx1, hd1, rfl, rfl, hN, rfl, Nat.le_refl 2⟩
    generalize ([("packages", AV.none), ("named", (AV.ref nm))] : List (Str × AV)) = F1 at T ⊢
    clear K1 hx1 hd1 hN
    repeat walk_at "s"
    refine W_Dict0 fun d2 nd2 => ?_
    replace T := T.add (o := .dict []) nd2
    generalize upd H1 d2 (.dict []) = G2 at T ⊢
    repeat walk_at "s"
    refine W_setAttr T.hx T.hd (fun P => rfl) ?_ T.nd (T.room (by decide))
    replace T := T.set (n := Str.ofString "globals") (v := .ref d2) nx (by decide) (by decide)
    generalize storeA F1 (Str.ofString "globals") (.ref d2) = F2 at T ⊢
    generalize upd G2 dx (.idict F2) = H2 at T ⊢
    repeat walk_at "s"
    refine W_Dict0 fun d3 nd3 => ?_
    replace T := T.add (o := .dict []) nd3
    generalize upd H2 d3 (.dict []) = G3 at T ⊢
    repeat walk_at "s"
    refine W_setAttr T.hx T.hd (fun P => rfl) ?_ T.nd (T.room (by decide))
    replace T := T.set (n := Str.ofString "consts") (v := .ref d3) nx (by decide) (by decide)
    generalize storeA F2 (Str.ofString "consts") (.ref d3) = F3 at T ⊢
    generalize upd G3 dx (.idict F3) = H3 at T ⊢
    repeat walk_at "s"
    refine W_Dict0 fun d4 nd4 => ?_
    replace T := T.add (o := .dict []) nd4
    generalize upd H3 d4 (.dict []) = G4 at T ⊢
    repeat walk_at "s"
    refine W_setAttr T.hx T.hd (fun P => rfl) ?_ T.nd (T.room (by decide))
    replace T := T.set (n := Str.ofString "funcs") (v := .ref d4) nx (by decide) (by decide)
    generalize storeA F3 (Str.ofString "funcs") (.ref d4) = F4 at T ⊢
    generalize upd G4 dx (.idict F4) = H4 at T ⊢
    repeat walk_at "s"
    refine W_Dict0 fun d5 nd5 => ?_
    replace T := T.add (o := .dict []) nd5
    generalize upd H4 d5 (.dict []) = G5 at T ⊢
    repeat walk_at "s"
    refine W_setAttr T.hx T.hd (fun P => rfl) ?_ T.nd (T.room (by decide))
    replace T := T.set (n := Str.ofString "bodies") (v := .ref d5) nx (by decide) (by decide)
    generalize storeA F4 (Str.ofString "bodies") (.ref d5) = F5 at T ⊢
    generalize upd G5 dx (.idict F5) = H5 at T ⊢
    repeat walk_at "s"
    refine W_Dict0 fun d6 nd6 => ?_
    replace T := T.add (o := .dict []) nd6
    generalize upd H5 d6 (.dict []) = G6 at T ⊢
    repeat walk_at "s"
    refine W_setAttr T.hx T.hd (fun P => rfl) ?_ T.nd (T.room (by decide))
    replace T := T.set (n := Str.ofString "files") (v := .ref d6) nx (by decide) (by decide)
    generalize storeA F5 (Str.ofString "files") (.ref d6) = F6 at T ⊢
    generalize upd G6 dx (.idict F6) = H6 at T ⊢
    repeat walk_at "s"
    refine W_Dict0 fun d7 nd7 => ?_
    replace T := T.add (o := .dict []) nd7
    generalize upd H6 d7 (.dict []) = G7 at T ⊢
    repeat walk_at "s"
    refine W_setAttr T.hx T.hd (fun P => rfl) ?_ T.nd (T.room (by decide))
    replace T := T.set (n := Str.ofString "scopes") (v := .ref d7) nx (by decide) (by decide)
    generalize storeA F6 (Str.ofString "scopes") (.ref d7) = F7 at T ⊢
    generalize upd G7 dx (.idict F7) = H7 at T ⊢
    repeat walk_at "s"
    refine W_newList fun d8 nd8 => ?_
    replace T := T.add (o := .list []) nd8
    generalize upd H7 d8 (.list []) = G8 at T ⊢
    repeat walk_at "s"
    refine W_setAttr T.hx T.hd (fun P => rfl) ?_ T.nd (T.room (by decide))
    replace T := T.set (n := Str.ofString "order") (v := .ref d8) nx (by decide) (by decide)
    generalize storeA F7 (Str.ofString "order") (.ref d8) = F8 at T ⊢
    generalize upd G8 dx (.idict F8) = H8 at T ⊢
    repeat walk_at "s"
    refine W_newList fun d9 nd9 => ?_
    replace T := T.add (o := .list []) nd9
    generalize upd H8 d9 (.list []) = G9 at T ⊢
    repeat walk_at "s"
    refine W_setAttr T.hx T.hd (fun P => rfl) ?_ T.nd (T.room (by decide))
    replace T := T.set (n := Str.ofString "starts") (v := .ref d9) nx (by decide) (by decide)
    generalize storeA F8 (Str.ofString "starts") (.ref d9) = F9 at T ⊢
    generalize upd G9 dx (.idict F9) = H9 at T ⊢
    repeat walk_at "s"
    refine W_setAttr T.hx T.hd (fun P => rfl) ?_ T.nd (T.room (by decide))
    replace T := T.set (n := Str.ofString "settle") (v := .none) nx (by decide) (by decide)
    generalize storeA F9 (Str.ofString "settle") (.none) = F10 at T ⊢
    generalize upd H9 dx (.idict F10) = H10 at T ⊢
    repeat walk_at "s"
    refine W_newList fun d11 nd11 => ?_
    replace T := T.add (o := .list []) nd11
    generalize upd H10 d11 (.list []) = G11 at T ⊢
    repeat walk_at "s"
    refine W_setAttr T.hx T.hd (fun P => rfl) ?_ T.nd (T.room (by decide))
    replace T := T.set (n := Str.ofString "late_keys") (v := .ref d11) nx (by decide) (by decide)
    generalize storeA F10 (Str.ofString "late_keys") (.ref d11) = F11 at T ⊢
    generalize upd G11 dx (.idict F11) = H11 at T ⊢
    repeat walk_at "s"
    refine W_newList fun d12 nd12 => ?_
    replace T := T.add (o := .list []) nd12
    generalize upd H11 d12 (.list []) = G12 at T ⊢
    repeat walk_at "s"
    refine W_setAttr T.hx T.hd (fun P => rfl) ?_ T.nd (T.room (by decide))
    replace T := T.set (n := Str.ofString "late_parts") (v := .ref d12) nx (by decide) (by decide)
    generalize storeA F11 (Str.ofString "late_parts") (.ref d12) = F12 at T ⊢
    generalize upd G12 dx (.idict F12) = H12 at T ⊢
    repeat walk_at "s"
    refine W_newList fun d13 nd13 => ?_
    replace T := T.add (o := .list []) nd13
    generalize upd H12 d13 (.list []) = G13 at T ⊢
    repeat walk_at "s"
    refine W_setAttr T.hx T.hd (fun P => rfl) ?_ T.nd (T.room (by decide))
    replace T := T.set (n := Str.ofString "late_sizes") (v := .ref d13) nx (by decide) (by decide)
    generalize storeA F12 (Str.ofString "late_sizes") (.ref d13) = F13 at T ⊢
    generalize upd G13 dx (.idict F13) = H13 at T ⊢
    repeat walk_at "s"
    refine W_setAttr T.hx T.hd (fun P => rfl) ?_ T.nd (T.room (by decide))
    replace T := T.set (n := Str.ofString "is_whole") (v := .bool true) nx (by decide) (by decide)
    generalize storeA F13 (Str.ofString "is_whole") (.bool true) = F14 at T ⊢
    generalize upd H13 dx (.idict F14) = H14 at T ⊢
    repeat walk_at "s"
    exact q nm l _ _ T.K nNH T.hn hN4 T.hx T.hd T.hv T.hb
end
theorem boot_tuple : bootBuiltins "tuple" = some (.type "tuple") := by decide +kernel
/-- a struct as the law builds it: its path, a list of fields, a dict of methods -/
inductive ItemAt (H : AH) (it : AV) (ps : Str × Strct) : Prop
  | mk (fl md : Addr) (_ : it = .tup [.str ps.1, .ref fl, .ref md]) (_ : H fl = some (.list (ps.2.fields.map Fld.av))) (_ : H md = some (.dict ps.2.dict)) : ItemAt H it ps
inductive RowsAt (H : AH) (rl : Addr) (row : List (Str × Strct)) : Prop
  | mk (items : List AV) (_ : H rl = some (.list items)) (_ : All2 (ItemAt H) items row) : RowsAt H rl row
inductive LayersAt (H : AH) (ll : Addr) (layers : List (List (Str × Strct))) : Prop
  | mk (rls : List Addr) (_ : H ll = some (.list (rls.map .ref))) (_ : All2 (RowsAt H) rls layers) : LayersAt H ll layers
theorem ItemAt.sub {H H' : AH} (S : Sub H H') {it : AV} {ps : Str × Strct} : ItemAt H it ps → ItemAt H' it ps := fun ⟨fl, md, e, a, b⟩ => ⟨fl, md, e, S _ _ a, S _ _ b⟩
theorem RowsAt.sub {H H' : AH} (S : Sub H H') {rl : Addr} {row : List (Str × Strct)} : RowsAt H rl row → RowsAt H' rl row := fun ⟨i, e, a⟩ => ⟨i, S _ _ e, a.mono fun _ _ => ItemAt.sub S⟩
theorem LayersAt.sub {H H' : AH} (S : Sub H H') {ll : Addr} {layers : List (List (Str × Strct))} : LayersAt H ll layers → LayersAt H' ll layers := fun ⟨i, e, a⟩ => ⟨i, S _ _ e, a.mono fun _ _ => RowsAt.sub S⟩
noncomputable def mdl (layers : List (List (Str × Strct))) : Mdl := fun p => (layers.flatten.find? fun ps => decide (ps.1 = p)).map (·.2)
theorem mdl_mem {layers : List (List (Str × Strct))} {p : Str} {s : Strct} (h : mdl layers p = some s) : (p, s) ∈ layers.flatten := by
  unfold mdl at h
  obtain ⟨ps, e, rfl⟩ := Option.map_eq_some_iff.mp h
  have e1 := List.find?_some e
  have e2 := List.mem_of_find?_eq_some e
  have : ps.1 = p := by simpa using e1
  rw [← this]; exact e2
theorem list_split {α : Type} {l : List α} {j : Nat} {x : α} (h : l[j]? = some x) : l = l.take j ++ x :: l.drop (j + 1) := by
  obtain ⟨hj, rfl⟩ := List.getElem?_eq_some_iff.mp h
  rw [List.getElem_cons_drop, List.take_append_drop]
theorem flat_split {α : Type} {l : List (List α)} {i : Nat} {row : List α} (h : l[i]? = some row) : l.flatten = (l.take i).flatten ++ (row ++ (l.drop (i + 1)).flatten) := by
  conv => lhs; rw [list_split h]
  rw [List.flatten_append, List.flatten_cons]
section
variable {c : Cfg} {k : Nat} {H : AH}
theorem c_mkWorld {Q : AV → AH → Prop} (q : ∀ (w dx nd : Addr) (l F : List (Str × AV)) H', Sub H H' → H w = none → H dx = none → H nd = none → H' w = some (.inst 250 dx) → H' dx = some (.idict F) → valA F "named" = some (.ref nd) → valA F "base_of" = none → H' nd = some (.dict l) → l.length ≤ 4 → Q (.ref w) H') :
    Cl c (k + 5) (.ref 250) [] H Q := by
  refine Cl_make (fI := 233) (fun P => rfl) (fun P => rfl) (fun P => rfl) fun x dx hx hd nx => ?_
  refine c_World (upd_same ..) (by rw [upd_ne nx.symm, upd_same]) fun nd l F H' K n hn hl h1 h2 h3 h4 => ⟨rfl, ?_⟩
  refine q x dx nd l F H' (fun a o e => K a o ?_ (ne2 hd e)) hx hd ?_ h1 h2 h3 h4 hn hl
  · rw [upd_ne (ne2 hx e), upd_ne (ne2 hd e)]; exact e
  · exact (upd_none.mp (upd_none.mp n).2).2
/-- the rows that a world has so far -/
noncomputable def RowsIn (H H' : AH) (l : List (Str × AV)) (done : List (Str × Strct)) : Prop := ∀ ps ∈ done, ∃ r dx md pth pk, valA l ps.1 = some (.ref r) ∧ H' r = some (.inst 207 dx) ∧ H' dx = some (.idict [("path", pth), ("package", pk), ("underlying", under ps.2), ("methods", .ref md)]) ∧ H md = some (.dict ps.2.dict)
set_option maxRecDepth 100000 in
set_option maxHeartbeats 2000000 in
theorem c_law_world {ll : Addr} {layers : List (List (Str × Strct))} {Q : AV → AH → Prop} (L : LayersAt H ll layers) (hnd : (layers.flatten.map (·.1)).Nodup) (hz : layers.flatten.length ≤ 1000) (hf : ∀ ps ∈ layers.flatten, ps.2.fields.length ≤ 1000)
    (q : ∀ w H', Sub H H' → WorldAt H' w (mdl layers) → Q (.ref w) H') : Cl c (k + 6) (.ref 291) [.ref ll] H Q := by
  refine Cl_fn ["layers"] (fun P => rfl) (fun P => rfl) (fun vs h => ?_) ?_ ?_ (fun F fs => ?_)
  · obtain ⟨a, rfl⟩ := len1 h; rfl
  · decide
  · decide
  · refine W_execs_cons ?_
    repeat walk_at "s"
    refine c_mkWorld fun w wdx nd l0 F H₁ S₁ nw nwd nn h1 h2 h3 h4 hn hl => ?_
    repeat walk_at "s"
    obtain ⟨rls, hll, hrls⟩ := L
    have S₁ll := S₁ _ _ hll
    let J1 : JF := fun as own i am H' => A4 (as = rls.map AV.ref) (own = some (ll, .list (rls.map .ref))) (am "world" = some (.ref w)) (∃ l, A4 (But nd (del H₁ ll) H') (H' nd = some (.dict l)) (l.length ≤ 4 + ((layers.take i).flatten).length) (RowsIn H H' l (layers.take i).flatten))
    refine W_ForH J1 (WI_list ?_)
    repeat walk_at "s"
    have nll : nd ≠ ll := ne1 nn hll
    refine ⟨ll, _, rfl, S₁ll, ⟨rfl, rfl, rfl, l0, .refl, by rw [del_ne nll]; exact hn, by simpa using hl, by simp [RowsIn]⟩, ?_, ?_⟩
    · rintro i a am H' ha ⟨-, -, m1, l, K, hnd', hlen, hrows⟩
      intro Q' hQ'
      obtain ⟨rl, hrl, rfl⟩ := Option.map_eq_some_iff.mp (List.getElem?_map .. ▸ ha)
      obtain ⟨row, hrow, items, hit, hall⟩ := hrls.getL hrl
      refine W_aName ?_
      repeat walk_at "s"
      have rlm := List.mem_of_getElem? hrl
      have nrl : rl ≠ ll := by
        rintro rfl
        rw [hit] at hll
        have e : items = rls.map AV.ref := by injection hll with hll; injection hll
        obtain ⟨ps, _, fl, md, e1, _⟩ := hall.memL (a := .ref rl) (by rw [e]; exact List.mem_map.mpr ⟨rl, rlm, rfl⟩)
        cases e1
      have nnr : nd ≠ rl := ne1 nn hit
      have hit' : H' rl = some (.list items) := K _ _ (by rw [del_ne nrl]; exact S₁ _ _ hit) nnr.symm
      let J2 : JF := fun as own j am H'' => A4 (as = items) (own = some (rl, .list items)) (am "world" = some (.ref w)) (∃ l', A4 (But nd (del H' rl) H'') (H'' nd = some (.dict l')) (l'.length ≤ 4 + (((layers.take i).flatten) ++ row.take j).length) (RowsIn H H'' l' ((layers.take i).flatten ++ row.take j)))
      refine W_ForH J2 (WI_list ?_)
      repeat walk_at "s"
      refine ⟨rl, _, rfl, hit', ⟨rfl, rfl, m1, l, .refl, by rw [del_ne nnr]; exact hnd', by rw [List.take_zero, List.append_nil]; exact hlen, ?_⟩, ?_, ?_⟩
      · rw [List.take_zero, List.append_nil]
        intro ps hps
        obtain ⟨r, dx, md, pth, pk, e1, e2, e3, e4⟩ := hrows ps hps
        refine ⟨r, dx, md, pth, pk, e1, ?_, ?_, e4⟩
        · rw [del_ne]; exact e2
          rintro rfl; rw [hit'] at e2; cases e2
        · rw [del_ne]; exact e3
          rintro rfl; rw [hit'] at e3; cases e3
      · rintro j it am₂ H'' hj ⟨-, -, m1, l', K2, hnd2, hlen2, hrows2⟩
        intro Q' hQ'
        obtain ⟨ps, hps, fl, md, rfl, hfl, hmd⟩ := hall.getL hj
        have hfs := flat_split hrow
        have hrs := list_split hps
        have psm : ps ∈ layers.flatten := by rw [hfs]; exact List.mem_append_right _ (List.mem_append_left _ (List.mem_of_getElem? hps))
        have hdl : ((layers.take i).flatten ++ row.take j).length ≤ 1000 := by
          have e1 : (row.take j).length ≤ row.length := by rw [List.length_take]; exact Nat.min_le_right _ _
          rw [hfs, List.length_append, List.length_append] at hz
          rw [List.length_append]; lia
        have fresh : ∀ ps' ∈ (layers.take i).flatten ++ row.take j, ps'.1 ≠ ps.1 := by
          have e1 : layers.flatten = ((layers.take i).flatten ++ row.take j) ++ ps :: (row.drop (j + 1) ++ (layers.drop (i + 1)).flatten) := by
            rw [hfs]
            conv => lhs; arg 2; arg 1; rw [hrs]
            simp only [List.append_assoc, List.cons_append]
          rw [e1, List.map_append, List.map_cons, List.nodup_append] at hnd
          exact fun ps' m e => hnd.2.2 _ (List.mem_map.mpr ⟨ps', m, rfl⟩) _ (.head _) e
        have K3 : ∀ {a o}, H₁ a = some o → a ≠ ll → a ≠ rl → a ≠ nd → H'' a = some o := fun {a o} e n1 n2 n3 => K2 a o (by rw [del_ne n2]; exact K a o (by rw [del_ne n1]; exact e) n3) n3
        have nfl1 : fl ≠ ll := by
          rintro rfl
          rw [hfl] at hll
          have e : ps.2.fields.map Fld.av = rls.map AV.ref := by injection hll with hll; injection hll
          obtain ⟨f, _, ef⟩ := List.mem_map.mp (by rw [e]; exact List.mem_map.mpr ⟨rl, rlm, rfl⟩ : AV.ref rl ∈ ps.2.fields.map Fld.av)
          cases ef
        have nfl2 : fl ≠ rl := by
          rintro rfl
          rw [hfl] at hit
          have e : ps.2.fields.map Fld.av = items := by injection hit with hit; injection hit
          obtain ⟨f, _, ef⟩ := List.mem_map.mp (by rw [e]; exact List.mem_of_getElem? hj : AV.tup [.str ps.1, .ref fl, .ref md] ∈ ps.2.fields.map Fld.av)
          injection ef with ef; injection ef with _ ef; injection ef with _ ef; injection ef with ef; cases ef
        have hfl2 := K3 (S₁ _ _ hfl) nfl1 nfl2 (ne2 nn hfl)
        have hw2 := K3 h1 (ne1 nw hll) (ne1 nw hit) (by rintro rfl; rw [h1] at hn; cases hn)
        have hwd2 := K3 h2 (ne1 nwd hll) (ne1 nwd hit) (by rintro rfl; rw [h2] at hn; cases hn)
        refine W_aTup (W_ino_cons (W_aName (W_ino_cons (W_aName (W_ino_cons (W_aName (W_ino_nil ?_)))))))
        repeat walk_at "s"
        refine S_CallT (T := "tuple") rfl rfl rfl (by decide) rfl rfl rfl (fun _ => rfl) boot_tuple (by decide) ?_
        repeat walk_at "s"
        refine W_tupleList hfl2 (by rw [List.length_map]; have := hf ps psm; lia) ?_
        repeat walk_at "s"
        refine c_mkRow fun x dx hx hdx nx => ?_
        generalize hg : upd _ dx _ = H5
        have S5 : Sub H'' H5 := by rw [← hg]; exact sub_row (Sub.refl _) hx hdx nx
        have hx5 : H5 x = some (.inst 207 dx) := by rw [← hg, upd_ne nx, upd_same]
        have hdx5 : H5 dx = some (.idict [("path", .str ps.1), ("package", .str "m"), ("underlying", under ps.2), ("methods", .ref md)]) := by rw [← hg, upd_same]
        clear hg
        repeat walk_at "s"
        refine W_attr (S5 _ _ hw2) (S5 _ _ hwd2) h3 (fun P => rfl) rfl ?_
        repeat walk_at "s"
        have hnd5 := S5 _ _ hnd2
        refine W_setItem_dict hnd5 (by lia) ?_
        repeat walk_at "s"
        have up : ∀ {b o y}, H5 b = some o → (∀ l, o ≠ .dict l) → upd H5 nd y b = some o := fun {b o y} e n => by
          rw [upd_ne]; exact e
          rintro rfl; rw [hnd5] at e; cases e; exact n _ rfl
        refine ⟨rfl, rfl, m1, _, fun b o e n => ?_, upd_same .., ?_, ?_⟩
        · rw [upd_ne n]; exact S5 _ _ (K2 b o e n)
        · have := @storeA_le l' ps.1 (.ref x)
          rw [take_next hps, ← List.append_assoc, List.length_append, List.length_singleton]; lia
        · rw [take_next hps, ← List.append_assoc]
          intro ps' m
          rcases List.mem_append.mp m with m | m
          · obtain ⟨r, dx', md', pth, pk, e1, e2, e3, e4⟩ := hrows2 ps' m
            exact ⟨r, dx', md', pth, pk, by rw [valA_store, if_neg (fresh ps' m)]; exact e1, up (S5 _ _ e2) (by simp), up (S5 _ _ e3) (by simp), e4⟩
          · rw [List.mem_singleton.mp m]
            exact ⟨x, dx, md, _, _, by rw [valA_store, if_pos rfl], up hx5 (by simp), up hdx5 (by simp), hmd⟩
      · rintro am₂ H'' ⟨-, -, m1, l', K2, hnd2, hlen2, hrows2⟩
        repeat walk_at "s"
        have hlr := hall.len
        rw [← hlr, List.take_length] at hlen2 hrows2
        have K3 := But.back hit' K2
        have e1 : (layers.take (i + 1)).flatten = (layers.take i).flatten ++ row := by rw [take_next hrow, List.flatten_append]; simp
        refine ⟨rfl, rfl, m1, l', K.trans K3, by rw [restore_ne nnr]; exact hnd2, by rw [e1]; exact hlen2, ?_⟩
        rw [e1]
        intro ps m
        obtain ⟨r, dx', md', pth, pk, e1, e2, e3, e4⟩ := hrows2 ps m
        refine ⟨r, dx', md', pth, pk, e1, ?_, ?_, e4⟩
        · rw [restore_ne]; exact e2
          rintro rfl; rw [K2 _ _ del_same nnr.symm] at e2; cases e2
        · rw [restore_ne]; exact e3
          rintro rfl; rw [K2 _ _ del_same nnr.symm] at e3; cases e3
    · rintro am H' ⟨-, -, m1, l, K, hnd', hlen, hrows⟩
      repeat walk_at "s"
      have hlr := hrls.len
      rw [List.length_map, ← hlr, List.take_length] at hrows
      have K3 := But.back S₁ll K
      refine q w _ (fun a o e => K3 a o (S₁ _ _ e) (ne2 nn e)) ⟨wdx, nd, l, F, K3 _ _ h1 ?_, K3 _ _ h2 ?_, h3, h4, by rw [restore_ne nll]; exact hnd', fun p s hp => ?_⟩
      · rintro rfl; rw [h1] at hn; cases hn
      · rintro rfl; rw [h2] at hn; cases hn
      · obtain ⟨r, dx', md', pth, pk, e1, e2, e3, e4⟩ := hrows (p, s) (mdl_mem hp)
        refine ⟨r, e1, dx', md', pth, pk, ?_, ?_, K3 _ _ (S₁ _ _ e4) (ne2 nn e4)⟩
        · rw [restore_ne]; exact e2
          rintro rfl; rw [K _ _ del_same nll.symm] at e2; cases e2
        · rw [restore_ne]; exact e3
          rintro rfl; rw [K _ _ del_same nll.symm] at e3; cases e3
end
noncomputable abbrev SRow := List (Str × Strct)
noncomputable abbrev Way := Str × List AV
noncomputable def ways0 : List Way := [("m.A0", [])]
noncomputable def Way.av (w : Way) : AV := .tup [.str w.1, .tup w.2]
noncomputable abbrev lawFuncA : AV := .tup [.str "func", .tup [], .tup [.tup [.str "bool"]], .bool false]
theorem lawFunc_R (h : Heap) (P : Params) (X : (KK P).In h) : VR h lawFuncA (.ref 279) := by
  refine ⟨279, [.str "func" 594, .ref 276, .ref 278, .bool false], rfl, ⟨_, X 279 _ rfl, rfl, _, rfl⟩, ?_⟩
  exact ⟨_, _, rfl, ⟨_, rfl⟩, _, _, rfl, ⟨276, [], rfl, ⟨_, X 276 _ rfl, rfl, _, rfl⟩, rfl⟩, _, _, rfl, ⟨278, [.ref 277], rfl, ⟨_, X 278 _ rfl, rfl, _, rfl⟩, _, _, rfl, ⟨277, [.str "bool" 595], rfl, ⟨_, X 277 _ rfl, rfl, _, rfl⟩, _, _, rfl, ⟨_, rfl⟩, rfl⟩, rfl⟩, _, _, rfl, rfl, rfl⟩
noncomputable def rowM (row : SRow) : Mdl := fun p => (row.find? fun ps => decide (ps.1 = p)).map (·.2)
noncomputable def fieldsFound (steps : List AV) (name : Str) : List Fld → Nat → List AV
  | [], _ => []
  | f :: l, i => (if f.name = name then [.tup [.str "field", .tup (steps ++ [.tup [.int i, .bool false]]), f.ty]] else []) ++ fieldsFound steps name l (i + 1)
noncomputable def fieldsLater (steps : List AV) : List Fld → Nat → List Way
  | [], _ => []
  | .plain _ _ :: l, i => fieldsLater steps l (i + 1)
  | .emb _ ptr p :: l, i => (p, steps ++ [.tup [.int i, .bool ptr]]) :: fieldsLater steps l (i + 1)
noncomputable def methFound (s : Strct) (steps : List AV) (name : Str) : List AV := match methOf s name with
  | some m => [.tup [.str "method", .tup steps, m.key, .bool m.ptr, lawFuncA]]
  | none => []
noncomputable def wayFound (M : Mdl) (name : Str) (w : Way) : List AV := methFound (strOf M w.1) w.2 name ++ fieldsFound w.2 name (strOf M w.1).fields 0
noncomputable def wayLater (M : Mdl) (w : Way) : List Way := fieldsLater w.2 (strOf M w.1).fields 0
noncomputable def rowFound (row : SRow) (name : Str) (ways : List Way) : List AV := ways.flatMap (wayFound (rowM row) name)
noncomputable def rowLater (row : SRow) (ways : List Way) : List Way := ways.flatMap (wayLater (rowM row))
noncomputable def foundSpec (name : Str) : List SRow → List Way → AV
  | [], _ => .none
  | row :: rest, ways => match rowFound row name ways with
    | [] => foundSpec name rest (rowLater row ways)
    | [a] => a
    | _ => .str "two"
noncomputable def WaysOk : List SRow → List Way → Prop
  | [], _ => True
  | row :: rest, ways => (∀ w ∈ ways, (∃ s, rowM row w.1 = some s) ∧ w.2.length ≤ 1000) ∧ ways.length ≤ 100 ∧ (row.map (·.1)).Nodup ∧ row.length ≤ 100 ∧ (∀ ps ∈ row, ps.2.fields.length ≤ 100) ∧ WaysOk rest (rowLater row ways)
theorem fieldsFound_append {steps : List AV} {name : Str} : ∀ {l l' : List Fld} {i : Nat}, fieldsFound steps name (l ++ l') i = fieldsFound steps name l i ++ fieldsFound steps name l' (i + l.length)
  | [], l', i => by simp [fieldsFound]
  | f :: l, l', i => by
    simp only [List.cons_append, fieldsFound, List.length_cons]
    rw [fieldsFound_append, show i + 1 + l.length = i + (l.length + 1) by lia, List.append_assoc]
theorem fieldsLater_append {steps : List AV} : ∀ {l l' : List Fld} {i : Nat}, fieldsLater steps (l ++ l') i = fieldsLater steps l i ++ fieldsLater steps l' (i + l.length)
  | [], l', i => by simp [fieldsLater]
  | .plain _ _ :: l, l', i => by
    simp only [List.cons_append, fieldsLater, List.length_cons]
    rw [fieldsLater_append, show i + 1 + l.length = i + (l.length + 1) by lia]
  | .emb _ _ _ :: l, l', i => by
    simp only [List.cons_append, fieldsLater, List.length_cons]
    rw [fieldsLater_append, show i + 1 + l.length = i + (l.length + 1) by lia]
theorem fieldsFound_le {steps : List AV} {name : Str} : ∀ {l : List Fld} {i : Nat}, (fieldsFound steps name l i).length ≤ l.length
  | [], _ => Nat.le_refl _
  | f :: l, i => by
    have := @fieldsFound_le steps name l (i + 1)
    simp only [fieldsFound, List.length_append, List.length_cons]
    split <;> simp <;> lia
theorem fieldsLater_le {steps : List AV} : ∀ {l : List Fld} {i : Nat}, (fieldsLater steps l i).length ≤ l.length
  | [], _ => Nat.le_refl _
  | .plain _ _ :: l, i => by
    have := @fieldsLater_le steps l (i + 1)
    simp only [fieldsLater, List.length_cons]; lia
  | .emb _ _ _ :: l, i => by
    have := @fieldsLater_le steps l (i + 1)
    simp only [fieldsLater, List.length_cons]; lia
theorem methFound_le {s : Strct} {steps : List AV} {name : Str} : (methFound s steps name).length ≤ 1 := by
  unfold methFound; split <;> simp
theorem rowFound_next {row : SRow} {name : Str} {ways : List Way} {j : Nat} {w : Way} (e : ways[j]? = some w) : rowFound row name (ways.take (j + 1)) = rowFound row name (ways.take j) ++ wayFound (rowM row) name w := by
  rw [take_next e]; simp only [rowFound, List.flatMap_append, List.flatMap_cons, List.flatMap_nil, List.append_nil]
theorem rowLater_next {row : SRow} {ways : List Way} {j : Nat} {w : Way} (e : ways[j]? = some w) : rowLater row (ways.take (j + 1)) = rowLater row (ways.take j) ++ wayLater (rowM row) w := by
  rw [take_next e]; simp only [rowLater, List.flatMap_append, List.flatMap_cons, List.flatMap_nil, List.append_nil]
theorem flatMap_le {α β : Type} {f : α → List β} {n : Nat} : ∀ {l : List α}, (∀ x ∈ l, (f x).length ≤ n) → (l.flatMap f).length ≤ n * l.length
  | [], _ => by simp
  | x :: l, h => by
    have h1 := h x (.head _)
    have h2 := @flatMap_le α β f n l fun y m => h y (.tail _ m)
    rw [List.flatMap_cons, List.length_append, List.length_cons, Nat.mul_add]
    lia
theorem strOf_rowM_le {row : SRow} {n : Nat} (h : ∀ ps ∈ row, ps.2.fields.length ≤ n) (p : Str) : (strOf (rowM row) p).fields.length ≤ n := by
  unfold strOf rowM
  cases e : row.find? fun ps => decide (ps.1 = p) with
  | none => exact Nat.zero_le _
  | some ps => exact h ps (List.mem_of_find?_eq_some e)
theorem rowFound_le {row : SRow} {name : Str} {ways : List Way} (h : ∀ ps ∈ row, ps.2.fields.length ≤ 100) : (rowFound row name ways).length ≤ 101 * ways.length :=
  flatMap_le fun w _ => by
    have := strOf_rowM_le h w.1
    have := @fieldsFound_le w.2 name (strOf (rowM row) w.1).fields 0
    have := @methFound_le (strOf (rowM row) w.1) w.2 name
    unfold wayFound; rw [List.length_append]; lia
theorem rowLater_le {row : SRow} {ways : List Way} (h : ∀ ps ∈ row, ps.2.fields.length ≤ 100) : (rowLater row ways).length ≤ 100 * ways.length :=
  flatMap_le fun w _ => by
    have := strOf_rowM_le h w.1
    have := @fieldsLater_le w.2 (strOf (rowM row) w.1).fields 0
    unfold wayLater; lia
/-- told: path to item -/
noncomputable def toldL (items : List AV) (row : SRow) : List (Str × AV) := List.zipWith (fun it ps => (ps.1, it)) items row
theorem toldL_val {H : AH} {items : List AV} {row : SRow} {p : Str} {s : Strct} (h : All2 (ItemAt H) items row) (e : rowM row p = some s) : ∃ it, valA (toldL items row) p = some it ∧ ItemAt H it (p, s) := by
  unfold rowM valA toldL at *
  induction h with
  | nil => simp at e
  | @cons it ps l r hp _ ih =>
    simp only [List.zipWith_cons_cons, List.find?_cons] at e ⊢
    by_cases z : ps.1 = p
    · simp only [z, decide_true, Option.map_some] at e ⊢
      cases e
      exact ⟨it, rfl, by rw [← z]; exact hp⟩
    · simp only [z, decide_false] at e ⊢
      exact ih e
theorem toldL_keys {H : AH} {items : List AV} {row : SRow} (h : All2 (ItemAt H) items row) : (toldL items row).map (·.1) = row.map (·.1) := by
  unfold toldL
  induction h with
  | nil => rfl
  | cons _ _ ih => simp only [List.zipWith_cons_cons, List.map_cons] at *; rw [ih]
theorem toldL_get {items : List AV} {row : SRow} {i : Nat} {it : AV} {ps : Str × Strct} (h1 : items[i]? = some it) (h2 : row[i]? = some ps) : (toldL items row)[i]? = some (ps.1, it) := by
  unfold toldL; rw [List.getElem?_zipWith, h1, h2]
theorem merge_fresh : ∀ {l acc : List (Str × AV)}, ((acc ++ l).map (·.1)).Nodup → l.foldl (fun acc p => storeA acc p.1 p.2) acc = acc ++ l
  | [], acc, _ => by simp
  | p :: l, acc, h => by
    have hf : ¬ (acc.any fun x => decide (x.1 = p.1)) = true := by
      rw [List.any_eq_true]; rintro ⟨x, hx, he⟩
      rw [List.map_append, List.map_cons, List.nodup_append] at h
      exact h.2.2 x.1 (List.mem_map.mpr ⟨x, hx, rfl⟩) p.1 (.head _) (of_decide_eq_true he)
    have e : storeA acc p.1 p.2 = acc ++ [p] := by unfold storeA; rw [if_neg hf]
    rw [List.foldl_cons, e, merge_fresh (by simpa using h)]
    simp
theorem mergeA_nodup {l : List (Str × AV)} (h : (l.map (·.1)).Nodup) : mergeA l = l := by
  have := @merge_fresh l [] (by simpa using h)
  simpa [mergeA] using this
noncomputable def But2 (f g : Addr) (H H' : AH) : Prop := ∀ a o, H a = some o → a ≠ f → a ≠ g → H' a = some o
theorem But2.back {f g l : Addr} {ob : AO} {H H' : AH} (e : H l = some ob) (x : But2 f g (Mine.del H l) H') : But2 f g H (restore (some (l, ob)) H') := fun a o z n m => by
  show Mine.upd H' l _ a = some o
  by_cases y : a = l
  · rw [y, upd_same]; rw [y, e] at z; exact z
  · rw [upd_ne y]; exact x a o (by rw [del_ne y]; exact z) n m
theorem But2.trans {f g : Addr} {H H' H'' : AH} (x : But2 f g H H') (y : But2 f g H' H'') : But2 f g H H'' := fun a o e n m => y a o (x a o e n m) n m
theorem But2.upd1 {f g : Addr} {H H' : AH} {o : AO} (x : But2 f g H H') : But2 f g H (Mine.upd H' f o) := fun a o e n m => by rw [upd_ne n]; exact x a o e n m
theorem But2.upd2 {f g : Addr} {H H' : AH} {o : AO} (x : But2 f g H H') : But2 f g H (Mine.upd H' g o) := fun a o e n m => by rw [upd_ne m]; exact x a o e n m
theorem boot_dict : bootBuiltins "dict" = some (.type "dict") := by decide +kernel
section
variable {c : Cfg} {k : Nat} {H : AH}
/-- a statement by itself, told by P -/
theorem W_cut {rest : List Frm} {env : Env} {am : AEnv} {st : Stmt} {r : List Stmt} {Q : AF → AEnv → AH → Prop} (P : AEnv → AH → Prop) (w : W c k rest env RF (exec st env) am H fun f am H => f = .next ∧ P am H) (q : ∀ am H, P am H → W c k rest env RF (execs r env) am H Q) : W c k rest env RF (execs (st :: r) env) am H Q :=
  W_execs_cons (w.mono fun f am H z => by obtain ⟨rfl, z⟩ := z; exact q am H z)
set_option maxRecDepth 100000 in
set_option maxHeartbeats 4000000 in
theorem c_law_found {ll : Addr} {layers : List SRow} {name : Str} {Q : AV → AH → Prop} (L : LayersAt H ll layers) (hW : WaysOk layers ways0)
    (q : ∀ H', Sub H H' → Q (foundSpec name layers ways0) H') : Cl c (k + 8) (.ref 296) [.ref ll, .str name] H Q := by
  refine Cl_fn ["layers", "name"] (fun P => rfl) (fun P => rfl) (fun vs h => ?_) ?_ ?_ (fun F fs => ?_)
  · obtain ⟨a, b, rfl⟩ := len2 h; rfl
  · decide
  · decide
  · obtain ⟨rls, hll, hrls⟩ := L
    refine W_execs_cons ?_
    repeat walk_at "s"
    refine W_newList fun wl nwl => ?_
    repeat walk_at "s"
    have nwll : wl ≠ ll := ne1 nwl hll
    have S0 : Sub H (upd H wl (.list [.tup [.str "m.A0", .tup []]])) := Sub.upd nwl
    have hwl : upd H wl (.list [.tup [.str "m.A0", .tup []]]) wl = some (.list (ways0.map Way.av)) := upd_same ..
    generalize upd H wl (.list [.tup [.str "m.A0", .tup []]]) = H₁ at S0 hwl ⊢
    let J1 : JF := fun as own i am H' => A6 (as = rls.map AV.ref) (own = some (ll, .list (rls.map .ref))) (am "name" = some (.str name)) (But ll H H') (H' ll = some .lent) (∃ (wl : Addr) (ways : List Way), A5 (am "ways" = some (.ref wl)) (H' wl = some (.list (ways.map Way.av))) (H wl = none) (foundSpec name (layers.drop i) ways = foundSpec name layers ways0) (WaysOk (layers.drop i) ways))
    refine W_ForH J1 (WI_list ?_)
    repeat walk_at "s"
    refine ⟨ll, _, rfl, S0 _ _ hll, ⟨rfl, rfl, rfl, fun a o e n => by rw [del_ne n]; exact S0 a o e, del_same, wl, _, rfl, by rw [del_ne nwll]; exact hwl, nwl, rfl, hW⟩, ?_, ?_⟩
    · clear nwl nwll S0 hwl wl
      rintro i a am H' ha ⟨-, -, m1, K, Kl, wl, ways, m2, hwl, nwl, hspec, hok⟩
      intro Q' hQ'
      obtain ⟨rl, hrl, rfl⟩ := Option.map_eq_some_iff.mp (List.getElem?_map .. ▸ ha)
      obtain ⟨row, hrow, items, hit, hall⟩ := hrls.getL hrl
      have hdrop : layers.drop i = row :: layers.drop (i + 1) := by
        obtain ⟨hi, e⟩ := List.getElem?_eq_some_iff.mp hrow
        rw [← e]; exact List.drop_eq_getElem_cons hi
      rw [hdrop] at hspec hok
      obtain ⟨hok1, hok2, hok3, hok4, hok5, hok6⟩ := hok
      have rlm := List.mem_of_getElem? hrl
      have nrl : rl ≠ ll := by
        rintro rfl
        rw [hit] at hll
        have e : items = rls.map AV.ref := by injection hll with hll; injection hll
        obtain ⟨ps, _, fl, md, e1, _⟩ := hall.memL (a := .ref rl) (by rw [e]; exact List.mem_map.mpr ⟨rl, rlm, rfl⟩)
        cases e1
      have hit' : H' rl = some (.list items) := K _ _ hit nrl
      have hlen : items.length = row.length := hall.len.symm
      refine W_aName ?_
      repeat walk_at "s"
      refine W_Assign_Swap ["told", "found", "later"] ?_
      repeat walk_at "s"
      refine S_CallT (T := "dict") rfl rfl rfl (by decide) rfl rfl rfl (fun _ => rfl) boot_dict (by decide) ?_
      repeat walk_at "s"
      let J2 : JL := fun as own D j acc H'' => A5 (as = items) (own = some (rl, .list items)) (Sub (del H' rl) H'') (H' D = none) (acc = ((toldL items row).take j).map fun p => .tup [.str p.1, p.2])
      refine W_ListComp J2 (WI_list ?_)
      repeat walk_at "s"
      have d1 : ∀ {it : AV} {ps : Str × Strct}, ItemAt H it ps → ∃ fl md, it = .tup [.str ps.1, .ref fl, .ref md] := fun ⟨fl, md, e, _, _⟩ => ⟨fl, md, e⟩
      refine ⟨rl, _, rfl, hit', by lia, fun D nD => ⟨⟨rfl, rfl, Sub.upd nD, (upd_none.mp nD).2, rfl⟩, ?_, ?_⟩⟩
      · rintro j it acc C H'' hj hD ⟨-, -, S, nD, hacc⟩
        obtain ⟨ps, hps, hit⟩ := hall.getL hj
        obtain ⟨fl, md, rfl⟩ := d1 hit
        refine W_tests0 ?_
        refine ifT rfl ?_
        repeat walk_at "s"
        refine ⟨hD, rfl, rfl, S.over (by rw [del_ne (ne1 nD hit')]; exact nD), nD, ?_⟩
        rw [take_next (toldL_get hj hps), List.map_append, ← hacc]
        rfl
      rintro acc H'' hD ⟨-, -, S, nD', hacc⟩
      have e5 : items.length = (toldL items row).length := by unfold toldL; rw [List.length_zipWith, hlen]; simp
      rw [e5, List.take_length] at hacc
      rw [hacc] at hD
      have SB : Sub H' (restore (some (rl, AO.list items)) H'') := sub_back hit' S
      have hD' : restore (some (rl, AO.list items)) H'' D = some (.list ((toldL items row).map fun p => .tup [.str p.1, p.2])) := by
        rw [restore_ne (ne1 nD' hit')]; exact hD
      generalize restore (some (rl, AO.list items)) H'' = H2 at SB hD' ⊢
      clear hD hacc S H'' acc
      repeat walk_at "s"
      refine W_dictPairs hD' (by rw [← e5]; lia) fun td ntd => ?_
      rw [mergeA_nodup (by rw [toldL_keys hall]; exact hok3)]
      repeat walk_at "s"
      refine W_newList fun fd nfd => ?_
      repeat walk_at "s"
      refine W_newList fun lt nlt => ?_
      repeat walk_at "s"
      refine ⟨_, rfl, rfl, ?_⟩
      repeat walk_at "s"
      have hl3 := upd_same (upd (upd H2 td (.dict (toldL items row))) fd (.list [])) lt (.list [])
      have hf3 : upd (upd (upd H2 td (.dict (toldL items row))) fd (.list [])) lt (.list []) fd = some (.list []) := upd_old nlt (upd_same ..)
      have ht3 : upd (upd (upd H2 td (.dict (toldL items row))) fd (.list [])) lt (.list []) td = some (.dict (toldL items row)) := upd_old nlt (upd_old nfd (upd_same ..))
      have SB3 : Sub H' (upd (upd (upd H2 td (.dict (toldL items row))) fd (.list [])) lt (.list [])) := ((SB.add ntd).add nfd).add nlt
      have nltH : H' lt = none := ((SB.add ntd).add nfd).none nlt
      have nfdH : H' fd = none := (SB.add ntd).none nfd
      have ntdH : H' td = none := SB.none ntd
      have nfl : fd ≠ lt := ne2 nlt (upd_same ..)
      generalize upd (upd (upd H2 td (.dict (toldL items row))) fd (.list [])) lt (.list []) = H3 at hl3 hf3 ht3 SB3 ⊢
      clear nlt nfd ntd SB hD' H2 nD nD' D
      have hwl3 := SB3 _ _ hwl
      have nfw : fd ≠ wl := ne1 nfdH hwl
      have nlw : lt ≠ wl := ne1 nltH hwl
      let J3 : JF := fun as own j am H'' => A9 (as = ways.map Way.av) (own = some (wl, .list (ways.map Way.av))) (am "name" = some (.str name)) (am "told" = some (.ref td)) (am "found" = some (.ref fd)) (am "later" = some (.ref lt)) (But2 fd lt (del H3 wl) H'') (H'' fd = some (.list (rowFound row name (ways.take j)))) (H'' lt = some (.list ((rowLater row (ways.take j)).map Way.av)))
      refine W_ForH J3 (WI_list ?_)
      repeat walk_at "s"
      refine ⟨wl, _, rfl, hwl3, ⟨rfl, rfl, m1, rfl, rfl, rfl, fun a o e _ _ => e, by rw [del_ne nfw]; exact hf3, by rw [del_ne nlw]; exact hl3⟩, ?_, ?_⟩
      · rintro j a am₂ H4 hj ⟨-, -, m1, m2, m3, m4, K4, hfd, hlt⟩
        intro Q' hQ'
        obtain ⟨wy, hwy, rfl⟩ := Option.map_eq_some_iff.mp (List.getElem?_map .. ▸ hj)
        obtain ⟨⟨s, hs⟩, hsteps⟩ := hok1 wy (List.mem_of_getElem? hwy)
        obtain ⟨it, hval, fl, md, rfl, hfl, hmd⟩ := toldL_val hall hs
        have hsm : s.fields.length ≤ 100 := by
          obtain ⟨ps, e1, e2⟩ := Option.map_eq_some_iff.mp hs
          rw [← e2]; exact hok5 ps (List.mem_of_find?_eq_some e1)
        have hso : strOf (rowM row) wy.1 = s := strOf_some hs
        have hfl100 : (rowFound row name (ways.take j)).length ≤ 10100 := by
          have := @rowFound_le row name (ways.take j) hok5
          have e : (ways.take j).length ≤ 100 := by rw [List.length_take]; lia
          lia
        have hll100 : (rowLater row (ways.take j)).length ≤ 10000 := by
          have := @rowLater_le row (ways.take j) hok5
          have e : (ways.take j).length ≤ 100 := by rw [List.length_take]; lia
          lia
        have rest4 : ∀ {a o}, H a = some o → a ≠ ll → a ≠ wl → H4 a = some o := fun {a o} e n1 n2 => by
          have e1 := K _ _ e n1
          exact K4 _ _ (by rw [del_ne n2]; exact SB3 _ _ e1) (ne2 nfdH e1) (ne2 nltH e1)
        have ht4 : H4 td = some (.dict (toldL items row)) := K4 _ _ (by rw [del_ne (ne1 ntdH hwl)]; exact ht3) (by rintro rfl; rw [ht3] at hf3; cases hf3) (by rintro rfl; rw [ht3] at hl3; cases hl3)
        have nmd : md ≠ ll := by rintro rfl; rw [hmd] at hll; cases hll
        have nfll : fl ≠ ll := by
          rintro rfl
          rw [hfl] at hll
          have e : s.fields.map Fld.av = rls.map AV.ref := by injection hll with hll; injection hll
          obtain ⟨f, _, ef⟩ := List.mem_map.mp (by rw [e]; exact List.mem_map.mpr ⟨rl, rlm, rfl⟩ : AV.ref rl ∈ s.fields.map Fld.av)
          cases ef
        have hmd4 := rest4 hmd nmd (by rintro rfl; rw [hmd] at nwl; cases nwl)
        have hfl4 := rest4 hfl nfll (by rintro rfl; rw [hfl] at nwl; cases nwl)
        have nfdl : fd ≠ fl := ne1 nfdH (K _ _ hfl nfll)
        have nltl : lt ≠ fl := ne1 nltH (K _ _ hfl nfll)
        unfold Way.av
        refine W_aTup (W_ino_cons (W_aName (W_ino_cons (W_aName (W_ino_nil ?_)))))
        repeat walk_at "s"
        refine W_Assign_Swap ["fields", "methods"] ?_
        repeat walk_at "s"
        refine W_item_dict ht4 hval ?_
        repeat walk_at "s"
        refine W_item_dict ht4 hval ?_
        repeat walk_at "s"
        refine ⟨_, rfl, rfl, ?_⟩
        refine Then_next (W_cut (fun am₃ H5 => am₃ "name" = some (.str name) ∧ am₃ "told" = some (.ref td) ∧ am₃ "found" = some (.ref fd) ∧ am₃ "later" = some (.ref lt) ∧ am₃ "fields" = some (.ref fl) ∧ am₃ "steps" = some (.tup wy.2) ∧ But2 fd lt (del H3 wl) H5 ∧ H5 fl = some (.list (s.fields.map Fld.av)) ∧
            H5 fd = some (.list (rowFound row name (ways.take j) ++ methFound s wy.2 name)) ∧ H5 lt = some (.list ((rowLater row (ways.take j)).map Way.av))) ?_ ?_)
        repeat walk_at "s"
        refine W_in_dict hmd4 ?_
        rw [valA_dict, Option.isSome_map]
        repeat walk_at "s"
        cases hm : methOf s name with
        | none =>
          refine ifF rfl ?_
          repeat walk_at "s"
          exact ⟨rfl, m1, m2, m3, m4, rfl, rfl, K4, hfl4, by rw [methFound, hm, List.append_nil]; exact hfd, hlt⟩
        | some m =>
          refine ifT rfl ?_
          repeat walk_at "s"
          refine WM_listM hfd slot_list_append (by kernel_rfl) ?_
          repeat walk_at "s"
          refine W_item_dict hmd4 (by rw [valA_dict, hm]; rfl) ?_
          repeat walk_at "s"
          refine W_item_dict hmd4 (by rw [valA_dict, hm]; rfl) ?_
          repeat walk_at "s"
          refine W_glob (fun _ => rfl) lawFunc_R ?_
          repeat walk_at "s"
          refine W_append hfd (by lia) ?_
          repeat walk_at "s"
          refine ⟨rfl, m1, m2, m3, m4, rfl, rfl, K4.upd1, by rw [upd_ne nfdl.symm]; exact hfl4, by rw [upd_same, methFound, hm], by rw [upd_ne nfl.symm]; exact hlt⟩
        clear m1 m2 m3 m4 K4 hfd hlt ht4 rest4 hmd4 hfl4 H4
        rintro am₃ H5 ⟨m1, m2, m3, m4, m5, m6, K5, hfl5, hfd5, hlt5⟩
        have hmle := @methFound_le s wy.2 name
        repeat walk_at "s"
        let J4 : JF := fun as own i2 am H6 => A10 (as = enumA (s.fields.map Fld.av) 0) (own = some (fl, .list (s.fields.map Fld.av))) (am "name" = some (.str name)) (am "told" = some (.ref td)) (am "found" = some (.ref fd)) (am "later" = some (.ref lt)) (am "steps" = some (.tup wy.2)) (But2 fd lt (del H5 fl) H6) (H6 fd = some (.list (rowFound row name (ways.take j) ++ methFound s wy.2 name ++ fieldsFound wy.2 name (s.fields.take i2) 0))) (H6 lt = some (.list ((rowLater row (ways.take j) ++ fieldsLater wy.2 (s.fields.take i2) 0).map Way.av)))
        refine W_ForH J4 (WI_enumL ?_)
        repeat walk_at "s"
        refine ⟨fl, _, rfl, hfl5, ⟨rfl, rfl, m1, m2, m3, m4, m6, fun a o e _ _ => e, by rw [del_ne nfdl, List.take_zero, fieldsFound, List.append_nil]; exact hfd5, by rw [del_ne nltl, List.take_zero, fieldsLater, List.append_nil]; exact hlt5⟩, ?_, ?_⟩
        · rintro i2 a am₄ H6 hi2 ⟨-, -, m1, m2, m3, m4, m6, K6, hfd6, hlt6⟩
          intro Q' hQ'
          obtain ⟨b, hb, rfl⟩ := enumA_inv hi2
          obtain ⟨f, hf, rfl⟩ := Option.map_eq_some_iff.mp (List.getElem?_map .. ▸ hb)
          have hil : i2 < s.fields.length := (List.getElem?_eq_some_iff.mp hf).1
          have e0 : 0 + (s.fields.take i2).length = i2 := by rw [List.length_take]; lia
          have hff : (fieldsFound wy.2 name (s.fields.take i2) 0).length ≤ 100 := by
            have := @fieldsFound_le wy.2 name (s.fields.take i2) 0
            lia
          have hgl : (fieldsLater wy.2 (s.fields.take i2) 0).length ≤ 100 := by
            have := @fieldsLater_le wy.2 (s.fields.take i2) 0
            lia
          refine W_aTup (W_ino_cons (W_aName (W_ino_cons (W_aName (W_ino_nil ?_)))))
          let J5 : JC := fun am H7 => A10 (am "name" = some (.str name)) (am "told" = some (.ref td)) (am "found" = some (.ref fd)) (am "later" = some (.ref lt)) (am "steps" = some (.tup wy.2)) (am "k" = some (.int i2)) (am "field" = some f.av) (But2 fd lt (del H5 fl) H7) (H7 fd = some (.list (rowFound row name (ways.take j) ++ methFound s wy.2 name ++ fieldsFound wy.2 name (s.fields.take (i2 + 1)) 0))) (H7 lt = some (.list ((rowLater row (ways.take j) ++ fieldsLater wy.2 (s.fields.take i2) 0).map Way.av)))
          refine W_cut J5 ?_ ?_
          · repeat walk_at "s"
            by_cases z : f.name = name
            · refine ifT (decide_eq_true z) ?_
              repeat walk_at "s"
              refine WM_listM hfd6 slot_list_append (by kernel_rfl) ?_
              repeat walk_at "s"
              refine W_tupAdd ?_ (by simp only [List.length_cons, List.length_nil]; lia)
              repeat walk_at "s"
              refine W_append hfd6 (by simp only [List.length_append]; lia) ?_
              repeat walk_at "s"
              refine ⟨rfl, m1, m2, m3, m4, m6, rfl, rfl, K6.upd1, ?_, by rw [upd_ne nfl.symm]; exact hlt6⟩
              rw [upd_same, take_next hf, fieldsFound_append, e0]
              simp only [fieldsFound, if_pos z, List.append_nil, List.append_assoc]
            · refine ifF (decide_eq_false z) ?_
              repeat walk_at "s"
              refine ⟨rfl, m1, m2, m3, m4, m6, rfl, rfl, K6, ?_, hlt6⟩
              rw [take_next hf, fieldsFound_append, e0]
              simp only [fieldsFound, if_neg z, List.append_nil]
              exact hfd6
          · clear m1 m2 m3 m4 m6 K6 hfd6 hlt6 H6
            rintro am₅ H7 ⟨m1, m2, m3, m4, m6, m7, m8, K7, hfd7, hlt7⟩
            have m8' := m8
            cases f with
            | plain fn ty =>
              repeat walk_at "s"
              refine ifF rfl ?_
              repeat walk_at "s"
              refine ⟨rfl, rfl, m1, m2, m3, m4, m6, K7, hfd7, ?_⟩
              rw [take_next hf, fieldsLater_append, e0]
              simp only [fieldsLater, List.append_nil]
              exact hlt7
            | emb fn ptr p =>
              cases ptr with
              | true =>
                have m9 : am₅ "field" = some (.tup [.str fn, .tup [.str "ptr", named p], .bool true]) := m8
                clear m8 m8'
                repeat walk_at "s"
                refine ifT rfl ?_
                repeat walk_at "s"
                refine ifT (by decide) ?_
                repeat walk_at "s"
                refine WM_listM hlt7 slot_list_append (by kernel_rfl) ?_
                repeat walk_at "s"
                refine W_tupAdd ?_ (by simp only [List.length_cons, List.length_nil]; lia)
                repeat walk_at "s"
                refine W_append hlt7 (by simp only [List.length_map, List.length_append]; lia) ?_
                repeat walk_at "s"
                refine ⟨rfl, rfl, m1, m2, m3, m4, m6, K7.upd2, by rw [upd_ne nfl]; exact hfd7, ?_⟩
                rw [upd_same, take_next hf, fieldsLater_append, e0]
                simp only [fieldsLater, List.map_append, List.append_assoc]
                rfl
              | false =>
                have m9 : am₅ "field" = some (.tup [.str fn, named p, .bool true]) := m8
                clear m8 m8'
                repeat walk_at "s"
                refine ifT rfl ?_
                repeat walk_at "s"
                refine ifF (by decide) ?_
                repeat walk_at "s"
                refine WM_listM hlt7 slot_list_append (by kernel_rfl) ?_
                repeat walk_at "s"
                refine W_tupAdd ?_ (by simp only [List.length_cons, List.length_nil]; lia)
                repeat walk_at "s"
                refine W_append hlt7 (by simp only [List.length_map, List.length_append]; lia) ?_
                repeat walk_at "s"
                refine ⟨rfl, rfl, m1, m2, m3, m4, m6, K7.upd2, by rw [upd_ne nfl]; exact hfd7, ?_⟩
                rw [upd_same, take_next hf, fieldsLater_append, e0]
                simp only [fieldsLater, List.map_append, List.append_assoc]
                rfl
        · rintro am₄ H6 ⟨-, -, m1, m2, m3, m4, m6, K6, hfd6, hlt6⟩
          repeat walk_at "s"
          rw [enumA_length, List.length_map, List.take_length] at hfd6 hlt6
          have K7 := But2.back hfl5 K6
          refine ⟨rfl, rfl, m1, m2, m3, m4, K5.trans K7, ?_, ?_⟩
          · rw [restore_ne nfdl, rowFound_next hwy, wayFound, hso, ← List.append_assoc]; exact hfd6
          · rw [restore_ne nltl, rowLater_next hwy, wayLater, hso]; exact hlt6
      · rintro am₂ H4 ⟨-, -, m1, m2, m3, m4, K4, hfd, hlt⟩
        repeat walk_at "s"
        rw [List.length_map, List.take_length] at hfd hlt
        have K5 := But2.back hwl3 K4
        have hfd5 : restore (some (wl, AO.list (ways.map Way.av))) H4 fd = some (.list (rowFound row name ways)) := by rw [restore_ne nfw]; exact hfd
        have hlt5 : restore (some (wl, AO.list (ways.map Way.av))) H4 lt = some (.list ((rowLater row ways).map Way.av)) := by rw [restore_ne nlw]; exact hlt
        generalize restore (some (wl, AO.list (ways.map Way.av))) H4 = H5 at K5 hfd5 hlt5 ⊢
        have K6 : But ll H H5 := fun a o e n => by
          have e1 := K _ _ e n
          exact K5 _ _ (SB3 _ _ e1) (ne2 nfdH e1) (ne2 nltH e1)
        have Kl5 : H5 ll = some .lent := K5 _ _ (SB3 _ _ Kl) (ne2 nfdH Kl) (ne2 nltH Kl)
        have nltH0 : H lt = none := by
          cases e : H lt with
          | none => rfl
          | some o => have := K _ _ e (ne1 nltH Kl); rw [nltH] at this; cases this
        have back : ∀ {X : AH}, But ll H X → Sub H (restore (some (ll, AO.list (rls.map AV.ref))) X) := fun {X} z a o e => by
          show upd X ll _ a = some o
          by_cases y : a = ll
          · rw [y, upd_same]; rw [y, hll] at e; exact e
          · rw [upd_ne y]; exact z a o e y
        refine W_newList fun nb nnb => ?_
        refine W_ne_nil (upd_old nnb hfd5) (upd_same ..) ?_
        have hfd7 := upd_old (o := .list []) nnb hfd5
        have hlt7 := upd_old (o := .list []) nnb hlt5
        have K7 : But ll H (upd H5 nb (.list [])) := K6.add nnb
        have Kl7 := upd_old (o := .list []) nnb Kl5
        generalize upd H5 nb (.list []) = H7 at hfd7 hlt7 K7 Kl7 ⊢
        repeat walk_at "s"
        rw [foundSpec] at hspec
        have hfl100 := @rowFound_le row name ways hok5
        match hfa : rowFound row name ways with
        | [] =>
          rw [hfa] at hspec hfd7
          refine ifF rfl ?_
          repeat walk_at "s"
          exact ⟨rfl, rfl, m1, K7, Kl7, lt, rowLater row ways, rfl, hlt7, nltH0, hspec, hok6⟩
        | [a] =>
          rw [hfa] at hspec hfd7
          refine ifT rfl ?_
          repeat walk_at "s"
          refine S_CallB (id := "len") rfl rfl rfl (by decide) rfl rfl rfl (fun _ => rfl) boot_len (by decide) ?_
          repeat walk_at "s"
          refine W_len hfd7 (by simp) ?_
          repeat walk_at "s"
          refine ifT rfl ?_
          repeat walk_at "s"
          refine W_item_list hfd7 (by decide) (by rfl) ?_ (by decide)
          repeat walk_at "s"
          rw [← hspec] at q
          exact q _ (back K7)
        | a :: b :: l =>
          rw [hfa] at hspec hfd7 hfl100
          refine ifT rfl ?_
          repeat walk_at "s"
          refine S_CallB (id := "len") rfl rfl rfl (by decide) rfl rfl rfl (fun _ => rfl) boot_len (by decide) ?_
          repeat walk_at "s"
          refine W_len hfd7 (by lia) ?_
          repeat walk_at "s"
          refine ifF (decide_eq_false (by simp only [List.length_cons]; lia)) ?_
          repeat walk_at "s"
          rw [← hspec] at q
          exact q _ (back K7)
    · rintro am H' ⟨-, -, m1, K, Kl, wl, ways, m2, hwl, nwl, hspec, hok⟩
      repeat walk_at "s"
      have hlr : layers.length = rls.length := hrls.len
      rw [List.length_map, ← hlr, List.drop_length] at hspec
      rw [← hspec] at q
      exact q _ fun a o e => by
        show upd H' ll _ a = some o
        by_cases y : a = ll
        · rw [y, upd_same]; rw [y, hll] at e; exact e
        · rw [upd_ne y]; exact K a o e y
end
theorem boot_max : bootBuiltins "max" = some (.builtin "max") := by decide +kernel
theorem boot_int : bootBuiltins "int" = some (.type "int") := by decide +kernel
theorem bits_small {a : Int} (h : Builtin.Int.intBits a ≤ 64) (b : Int) : IntMulOk a b ∧ IntMulOk b a := ⟨IntMulOk.of_left h, IntMulOk.of_right h⟩

/-- a list that was there from the start -/
noncomputable def GL (c : Cfg) (l : Addr) (as : List AV) : Prop := ∃ vs : List Value, c.G.IsList l vs.toArray ∧ VRs c.G as vs
section
variable {c : Cfg} {k : Nat} {rest : List Frm} {env : Env} {am : AEnv} {H : AH}
theorem W_lenG {l : Addr} {as : List AV} {Q : AV → AEnv → AH → Prop} (hl : GL c l as) (hz : as.length ≤ 1000000) (q : Q (.int as.length) am H) : Wn c k rest env RV [.ref l] (fun vs => call (.builtin "len") vs) am H Q := fun A s E vs o a S r => by
  obtain ⟨_, _, rfl, rfl, rfl⟩ := r
  obtain ⟨vs, ⟨ob, e0, e1, e2⟩, rv0⟩ := hl
  have rv := rv0.mono S.ground.tup
  refine PyProof.Rows.len_list (items := vs.toArray) ⟨ob, S.ground _ _ e0, e1, e2⟩ (by rw [List.size_toArray, rv.length]; lia) (Post.intro (R := RV) (a := .int as.length) (h' := s.heap) ?_ .refl S q)
  exact ⟨_, by rw [List.size_toArray, rv.length]⟩
theorem W_item_listG {l : Addr} {as : List AV} {i : Int} {x : AV} {value slice : Expr} {Q : AV → AEnv → AH → Prop} (hl : GL c l as) (h0 : 0 ≤ i) (hx : as[i.toNat]? = some x) (q : Q x am H) (hhi : i < 2 ^ 63)
    (hs : ∀ t u, subscripted slice false (.ref t) (.int i u) = operate [.ref t, .int i u] (getItem (.ref t) (.int i u)) := by intro _ _; with_unfolding_all rfl) :
    W2 c k rest env RV (.ref l) (.int i) (subscriptTail value slice) am H Q := fun A s E v u o a S r r' => by
  subst r; obtain ⟨t', rfl⟩ := r'
  obtain ⟨vs, ⟨ob, e0, e1, e2⟩, rv0⟩ := hl
  have rv := rv0.mono S.ground.tup
  obtain ⟨y, hy, ry⟩ := rv.get hx
  have L : s.heap.IsList l vs.toArray := ⟨ob, S.ground _ _ e0, e1, e2⟩
  exact tail_any L.typeIs slot_list_getitem.lookup (wpAny_getItem_list L h0 hhi (by simpa using hy) (Post.here ry S q)) (hs _ _)
end
inductive SourceAt (H : AH) (b : Addr) : Prop
  | mk (x m : Int) (_ : H b = some (.list [.int x, .int m])) (_ : 0 ≤ x ∧ 0 ≤ m ∧ m < 2147483647) : SourceAt H b
section
variable {c : Cfg} {k : Nat} {H : AH}
set_option maxRecDepth 100000 in
set_option maxHeartbeats 1000000 in
theorem c_law_pool {sl : Addr} {ns : List Int} {Q : AV → AH → Prop} (hs : GL c sl (ns.map .int)) (hz : ns.length ≤ 63)
    (q : ∀ b H', Sub H H' → H b = none → SourceAt H' b → Q (.ref b) H') : Cl c (k + 1) (.ref 261) [.ref sl, .int 0] H Q := by
  refine Cl_fn ["script", "k"] (fun P => rfl) (fun P => rfl) (fun vs h => ?_) ?_ ?_ (fun L fs => ?_)
  · obtain ⟨a, b, rfl⟩ := len2 h; rfl
  · decide
  · decide
  · let J1 : JC := fun am H' => A3 (H' = H) (am "k" = some (.int 0)) (∃ x, am "cell" = some (.int x))
    refine W_cut J1 ?_ ?_
    · repeat walk_at "s"
      refine S_CallB (id := "len") rfl rfl rfl (by decide) rfl rfl rfl (fun _ => rfl) boot_len (by decide) ?_
      repeat walk_at "s"
      refine W_lenG hs (by rw [List.length_map]; lia) ?_
      repeat walk_at "s"
      cases ns with
      | nil =>
        refine ifF rfl ?_
        repeat walk_at "s"
        exact ⟨rfl, rfl, rfl, 0, rfl⟩
      | cons x ns =>
        refine ifT (decide_eq_true (by rw [List.length_map, List.length_cons]; lia)) ?_
        repeat walk_at "s"
        refine W_item_listG hs (by decide) (by rfl) ?_ (by decide)
        repeat walk_at "s"
        exact ⟨rfl, rfl, rfl, x, rfl⟩
    rintro am H' ⟨rfl, m1, x, m2⟩
    repeat walk_at "s"
    refine S_CallB (id := "max") rfl rfl rfl (by decide) rfl rfl rfl (fun _ => rfl) boot_max (by decide) ?_
    repeat walk_at "s"
    refine S_CallT (T := "int") rfl rfl rfl (by decide) rfl rfl rfl (fun _ => rfl) boot_int (by decide) ?_
    repeat walk_at "s"
    refine W_int_int ?_
    repeat walk_at "s"
    refine S_CallT (T := "int") rfl rfl rfl (by decide) rfl rfl rfl (fun _ => rfl) boot_int (by decide) ?_
    repeat walk_at "s"
    refine W_int_int ?_
    repeat walk_at "s"
    refine W_max2 ?_
    repeat walk_at "s"
    have hbig : 0 ≤ (if -1 - x > x then -1 - x else x) := by split <;> lia
    generalize (if -1 - x > x then -1 - x else x) = big at hbig ⊢
    repeat walk_at "s"
    refine S_CallT (T := "int") rfl rfl rfl (by decide) rfl rfl rfl (fun _ => rfl) boot_int (by decide) ?_
    repeat walk_at "s"
    refine S_CallT (T := "int") rfl rfl rfl (by decide) rfl rfl rfl (fun _ => rfl) boot_int (by decide) ?_
    repeat walk_at "s"
    refine W_int_int ?_
    repeat walk_at "s"
    refine W_mod_int (by decide) ?_
    repeat walk_at "s"
    refine W_mul_int ?_ ?_
    · exact (bits_small (by decide) _).1
    repeat walk_at "s"
    refine W_mul_int ?_ ?_
    · exact (bits_small (by decide) _).2
    repeat walk_at "s"
    refine W_mul_int ?_ ?_
    · exact (bits_small (by decide) _).1
    repeat walk_at "s"
    refine W_mul_int ?_ ?_
    · exact (bits_small (by decide) _).2
    repeat walk_at "s"
    refine W_int_int ?_
    repeat walk_at "s"
    refine W_mod_int (by decide) ?_
    repeat walk_at "s"
    refine S_CallT (T := "int") rfl rfl rfl (by decide) rfl rfl rfl (fun _ => rfl) boot_int (by decide) ?_
    repeat walk_at "s"
    refine W_pow_int (n := 18) (by decide) (by decide) ?_
    repeat walk_at "s"
    refine W_int_bool ?_
    repeat walk_at "s"
    refine W_mul_int ?_ ?_
    · exact (bits_small (by split <;> decide) _).2
    repeat walk_at "s"
    refine W_newList fun b nb => ?_
    repeat walk_at "s"
    refine q b _ (Sub.upd nb) nb ⟨_, _, upd_same .., ?_, Int.fmod_nonneg_of_pos _ (by decide), Int.fmod_lt_of_pos _ (by decide)⟩
    split <;> lia
end
noncomputable def SourceOk (o : AO) : Prop := ∃ x m : Int, o = .list [.int x, .int m] ∧ 0 ≤ x ∧ 0 ≤ m ∧ m < 2147483647
theorem SourceOk.at {H : AH} {b : Addr} {o : AO} (x : SourceOk o) : SourceAt (upd H b o) b := by
  obtain ⟨x, m, rfl, h⟩ := x
  exact ⟨x, m, upd_same .., h⟩
theorem fdiv_pos {x y : Int} (hx : 0 ≤ x) (hy : 0 < y) : 0 ≤ x.fdiv y := Int.fdiv_nonneg hx (Int.le_of_lt hy)
theorem bits_lt {m : Int} (h : 0 ≤ m) (h2 : m < 2147483647) : Builtin.Int.intBits m ≤ 64 := by
  unfold Builtin.Int.intBits
  split
  · exact Nat.zero_le _
  · rename_i z
    have hz : m.natAbs ≠ 0 := by intro e; exact z (by simp [Int.natAbs_eq_zero.mp e])
    have : m.natAbs.log2 < 63 := (Nat.log2_lt hz).mpr (by lia)
    lia
section
variable {c : Cfg} {k : Nat} {H : AH}
set_option maxRecDepth 100000 in
set_option maxHeartbeats 1000000 in
theorem c_law_take {b : Addr} {top : Int} {Q : AV → AH → Prop} (hb : SourceAt H b) (h0 : 0 < top) (h1 : top ≤ 1000) (q : ∀ r o, 0 ≤ r → r < top → SourceOk o → Q (.int r) (upd H b o)) : Cl c (k + 1) (.ref 268) [.ref b, .int top] H Q := by
  obtain ⟨x, m, hb, hx, hm, hm2⟩ := hb
  refine Cl_fn ["source", "top"] (fun P => rfl) (fun P => rfl) (fun vs h => ?_) ?_ ?_ (fun L fs => ?_)
  · obtain ⟨a, b, rfl⟩ := len2 h; rfl
  · decide
  · decide
  · refine W_execs_cons ?_
    repeat walk_at "s"
    refine W_item_list hb (by decide) (by rfl) ?_ (by decide)
    repeat walk_at "s"
    by_cases hx0 : 0 < x
    · refine ifT (decide_eq_true hx0) ?_
      repeat walk_at "s"
      refine S_CallT (T := "int") rfl rfl rfl (by decide) rfl rfl rfl (fun _ => rfl) boot_int (by decide) ?_
      repeat walk_at "s"
      refine W_item_list hb (by decide) (by rfl) ?_ (by decide)
      repeat walk_at "s"
      refine W_int_int ?_
      repeat walk_at "s"
      refine W_mod_int (by lia) ?_
      repeat walk_at "s"
      refine W_item_list hb (by decide) (by rfl) ?_ (by decide)
      repeat walk_at "s"
      refine W_fdiv_int (by lia) (by lia) ?_
      repeat walk_at "s"
      refine W_setItem_list hb (by decide) (by simp) (by simp) ?_
      repeat walk_at "s"
      exact q _ _ (Int.fmod_nonneg_of_pos _ h0) (Int.fmod_lt_of_pos _ h0) ⟨_, m, rfl, fdiv_pos hx h0, hm, hm2⟩
    · refine ifF (decide_eq_false hx0) ?_
      repeat walk_at "s"
      refine S_CallT (T := "int") rfl rfl rfl (by decide) rfl rfl rfl (fun _ => rfl) boot_int (by decide) ?_
      repeat walk_at "s"
      refine W_item_list hb (by decide) (by rfl) ?_ (by decide)
      repeat walk_at "s"
      refine W_mul_int ?_ ?_
      · exact (bits_small (by decide) _).2
      repeat walk_at "s"
      refine W_int_int ?_
      repeat walk_at "s"
      refine W_mod_int (by decide) ?_
      repeat walk_at "s"
      refine W_setItem_list hb (by decide) (by simp) (by simp) ?_
      repeat walk_at "s"
      have hm' : 0 ≤ (m * 39373 + 7).fmod 2147483647 := Int.fmod_nonneg_of_pos _ (by decide)
      have hm2' : (m * 39373 + 7).fmod 2147483647 < 2147483647 := Int.fmod_lt_of_pos _ (by decide)
      generalize (m * 39373 + 7).fmod 2147483647 = m2 at hm' hm2' ⊢
      have hb2 : upd H b (.list ([AV.int x, .int m].set (Int.toNat 1) (.int m2))) b = some (.list [.int x, .int m2]) := upd_same ..
      have q2 := fun r h1 h2 => q r (.list [.int x, .int m2]) h1 h2 ⟨x, m2, rfl, hx, hm', hm2'⟩
      have e2 : upd H b (.list ([AV.int x, .int m].set (Int.toNat 1) (.int m2))) = upd H b (.list [.int x, .int m2]) := rfl
      rw [e2] at hb2 ⊢
      generalize upd H b (.list [.int x, .int m2]) = H2 at hb2 q2 ⊢
      refine S_CallT (T := "int") rfl rfl rfl (by decide) rfl rfl rfl (fun _ => rfl) boot_int (by decide) ?_
      repeat walk_at "s"
      refine S_CallT (T := "int") rfl rfl rfl (by decide) rfl rfl rfl (fun _ => rfl) boot_int (by decide) ?_
      repeat walk_at "s"
      refine W_item_list hb2 (by decide) (by rfl) ?_ (by decide)
      repeat walk_at "s"
      refine W_item_list hb2 (by decide) (by rfl) ?_ (by decide)
      refine W_mul_int ?_ ?_
      · exact (bits_small (bits_lt hm' hm2') _).1
      repeat walk_at "s"
      refine W_int_int ?_
      repeat walk_at "s"
      refine W_mod_int (by decide) ?_
      repeat walk_at "s"
      refine W_fdiv_int (by decide) (by decide) ?_
      repeat walk_at "s"
      refine W_int_int ?_
      repeat walk_at "s"
      refine W_mod_int (by lia) ?_
      repeat walk_at "s"
      exact q2 _ (Int.fmod_nonneg_of_pos _ h0) (Int.fmod_lt_of_pos _ h0)
set_option maxRecDepth 100000 in
theorem c_law_one {b tl : Addr} {as : List AV} {Q : AV → AH → Prop} (hb : SourceAt H b) (ht : H tl = some (.list as)) (hn : b ≠ tl) (h0 : 0 < as.length) (h1 : as.length ≤ 1000) (q : ∀ (i : Nat) (a : AV) (o : AO), as[i]? = some a → SourceOk o → Q a (upd H b o)) : Cl c (k + 2) (.ref 275) [.ref b, .ref tl] H Q := by
  refine Cl_fn ["source", "things"] (fun P => rfl) (fun P => rfl) (fun vs h => ?_) ?_ ?_ (fun L fs => ?_)
  · obtain ⟨a, b, rfl⟩ := len2 h; rfl
  · decide
  · decide
  · refine W_execs_cons ?_
    repeat walk_at "s"
    refine S_CallB (id := "len") rfl rfl rfl (by decide) rfl rfl rfl (fun _ => rfl) boot_len (by decide) ?_
    repeat walk_at "s"
    refine W_len ht (by lia) ?_
    repeat walk_at "s"
    refine c_law_take hb (by lia) (by lia) fun r o hr0 hr1 ho => ?_
    have hlt : r.toNat < as.length := by lia
    refine W_item_list (by rw [upd_ne hn.symm]; exact ht) hr0 (List.getElem?_eq_getElem hlt) ?_ (by lia)
    repeat walk_at "s"
    exact q r.toNat _ o (List.getElem?_eq_getElem hlt) ho
end
noncomputable def ds (n : Nat) : Str := Str.ofString (toString (n : Int))
theorem ds_le : ∀ n, n < 10 → (ds n).length ≤ 10 := by decide +kernel
noncomputable abbrev intA : AV := .tup [.str "int", .str "int"]
noncomputable abbrev plainF (n : Str) : Fld := .plain n intA
noncomputable abbrev pthS (l : Str) (d : Nat) : Str := (("m." : Str) ++ l) ++ ds d
noncomputable abbrev embF (d : Nat) (e : Str × Bool) : Fld := .emb (e.1 ++ ds (d + 1)) e.2 (pthS e.1 (d + 1))
noncomputable def optF : List (List Str) := [[], [], ["f"], ["g"]]
noncomputable def optE : List Str := ["A", "B", "AB", "BA"]
noncomputable def optM : List (List Str) := [[], ["M"], ["g", "M"], ["h"]]
noncomputable def letters (x : Str) : List Str := x.cps.toList.map fun c => ⟨#[c]⟩
theorem chars_letters (x : Str) : chars x = (letters x).map .str := by unfold chars letters; rw [List.map_map]; rfl
noncomputable def MsOk (names : List Str) (path : Str) (ms : List (Str × Mth)) : Prop := ∀ m ∈ ms, m.1 ∉ names ∧ m.2.func = lawFuncA ∧ m.2.key = .str (path ++ "." ++ m.1)
/-- a struct of the layer d as the law draws it -/
inductive StOk (many d : Nat) (path : Str) (s : Strct) : Prop
  | mk (f0 : List Str) (es : List (Str × Bool)) (ns : List Str) (ms : List (Str × Mth)) (_ : s = ⟨f0.map plainF ++ es.map (embF d), ms⟩) (_ : f0 ∈ optF)
    (_ : ∃ x, es.map (·.1) = letters x ∧ if d + 1 < many then x ∈ optE else x = "") (_ : ns ∈ optM) (_ : (ms.map (·.1)).Sublist ns) (_ : MsOk (s.fields.map Fld.name) path ms) : StOk many d path s
inductive RowOk (many d : Nat) (row : SRow) : Prop
  | mk (sA sB : Strct) (_ : row = [(pthS "A" d, sA), (pthS "B" d, sB)]) (_ : StOk many d (pthS "A" d) sA) (_ : StOk many d (pthS "B" d) sB) : RowOk many d row
noncomputable def DrawnOk (layers : List SRow) : Prop := ∃ many, (many = 3 ∨ many = 4) ∧ layers.length = many ∧ ∀ (d : Nat) (row : SRow), layers[d]? = some row → RowOk many d row
theorem letters_AB : ∀ L ∈ letters "AB", L.length ≤ 10 := by decide +kernel
theorem optF_le : ∀ f ∈ optF, f.length ≤ 2 := by decide
theorem optE_le : ∀ x ∈ optE, (letters x).length ≤ 2 := by decide
theorem optM_le : ∀ f ∈ optM, f.length ≤ 2 := by decide
theorem optM_len : ∀ ns ∈ optM, ∀ y ∈ ns, y.length ≤ 10 := by decide +kernel
theorem optM_nodup : ∀ ns ∈ optM, ns.Nodup := by decide
theorem store_fresh {l : List (Str × AV)} {x : Str} {a : AV} (h : x ∉ l.map (·.1)) : storeA l x a = l ++ [(x, a)] := by
  unfold storeA
  rw [if_neg]
  rw [List.any_eq_true]
  rintro ⟨p, hp, e⟩
  exact h (List.mem_map.mpr ⟨p, hp, of_decide_eq_true e⟩)
theorem take_not_mem {ns : List Str} {i : Nat} {y : Str} (n : ns.Nodup) (h : ns[i]? = some y) : y ∉ ns.take i := by
  have e := list_split h
  rw [e] at n
  rw [List.nodup_append] at n
  intro m
  exact n.2.2 y m y (.head _) rfl
theorem boot_str : bootBuiltins "str" = some (.type "str") := by decide +kernel
theorem log2_small {n : Nat} (h : n < 1000) : (n : Int).natAbs.log2 < 1920 := by
  rw [Int.natAbs_natCast]
  by_cases z : n = 0
  · subst z; decide
  · have := (Nat.log2_lt (k := 10) z).mpr (by lia)
    lia
theorem But.delN {f l : Addr} {H H' : AH} (x : But f H H') (n : H l = none) : But f H (Mine.del H' l) := fun a o e m => by rw [del_ne (ne2 n e)]; exact x a o e m
theorem But.resN {f l : Addr} {H H' : AH} {ob : AO} (x : But f H H') (n : H l = none) : But f H (restore (some (l, ob)) H') := fun a o e m => by rw [restore_ne (ne2 n e)]; exact x a o e m
theorem SourceAt.map {H H' : AH} {b : Addr} (x : SourceAt H b) (m : ∀ {a o}, H a = some o → H' a = some o) : SourceAt H' b := by obtain ⟨y, n, h1, h2⟩ := x; exact ⟨y, n, m h1, h2⟩
structure Five (H H6 : AH) (l1 l2 l3 l4 l5 : Addr) (a1 a2 a3 a4 a5 : AO) : Prop where
  o1 : ∀ {a o}, H a = some o → H6 a = some o
  e1 : H6 l1 = some a1
  e2 : H6 l2 = some a2
  e3 : H6 l3 = some a3
  e4 : H6 l4 = some a4
  e5 : H6 l5 = some a5
  c1 : H l1 = none
  c2 : H l2 = none
  c3 : H l3 = none
  c4 : H l4 = none
  c5 : H l5 = none
theorem five {H : AH} {l1 l2 l3 l4 l5 : Addr} {a1 a2 a3 a4 a5 : AO} (n1 : H l1 = none) (n2 : Mine.upd H l1 a1 l2 = none) (n3 : Mine.upd (Mine.upd H l1 a1) l2 a2 l3 = none) (n4 : Mine.upd (Mine.upd (Mine.upd H l1 a1) l2 a2) l3 a3 l4 = none)
    (n5 : Mine.upd (Mine.upd (Mine.upd (Mine.upd H l1 a1) l2 a2) l3 a3) l4 a4 l5 = none) : Five H (Mine.upd (Mine.upd (Mine.upd (Mine.upd (Mine.upd H l1 a1) l2 a2) l3 a3) l4 a4) l5 a5) l1 l2 l3 l4 l5 a1 a2 a3 a4 a5 :=
  ⟨fun e => upd_old n5 (upd_old n4 (upd_old n3 (upd_old n2 (upd_old n1 e)))), upd_old n5 (upd_old n4 (upd_old n3 (upd_old n2 (upd_same ..)))), upd_old n5 (upd_old n4 (upd_old n3 (upd_same ..))), upd_old n5 (upd_old n4 (upd_same ..)), upd_old n5 (upd_same ..), upd_same ..,
    n1, (upd_none.mp n2).2, (upd_none.mp (upd_none.mp n3).2).2, (upd_none.mp (upd_none.mp (upd_none.mp n4).2).2).2, (upd_none.mp (upd_none.mp (upd_none.mp (upd_none.mp n5).2).2).2).2⟩
theorem SourceAt.delN {H : AH} {b l : Addr} (x : SourceAt H b) (n : b ≠ l) : SourceAt (Mine.del H l) b := by obtain ⟨y, m, h1, h2⟩ := x; exact ⟨y, m, by rw [del_ne n]; exact h1, h2⟩
theorem SourceAt.resN {H : AH} {b l : Addr} {ob : AO} (x : SourceAt H b) (n : b ≠ l) : SourceAt (restore (some (l, ob)) H) b := by obtain ⟨y, m, h1, h2⟩ := x; exact ⟨y, m, by rw [restore_ne n]; exact h1, h2⟩
theorem SourceAt.add {H : AH} {b l : Addr} {ob : AO} (x : SourceAt H b) (n : H l = none) : SourceAt (Mine.upd H l ob) b := by obtain ⟨y, m, h1, h2⟩ := x; exact ⟨y, m, upd_old n h1, h2⟩
theorem SourceAt.put {H : AH} {b l : Addr} {ob : AO} (x : SourceAt H b) (n : b ≠ l) : SourceAt (Mine.upd H l ob) b := by obtain ⟨y, m, h1, h2⟩ := x; exact ⟨y, m, by rw [upd_ne n]; exact h1, h2⟩
theorem SourceAt.ne {H : AH} {b l : Addr} (x : SourceAt H b) (n : H l = none) : b ≠ l := by obtain ⟨y, m, h1, _⟩ := x; exact ne2 n h1
/-- new since X -/
theorem But.new {b l : Addr} {X H : AH} (x : But b X H) (n : H l = none) (nb : b ≠ l) : X l = none := by
  cases e : X l with
  | none => rfl
  | some o => have := x _ _ e nb.symm; rw [n] at this; cases this
theorem But.put {b l : Addr} {X H : AH} {o : AO} (x : But b X H) (n : X l = none) : But b X (Mine.upd H l o) := fun a ob e m => by rw [upd_ne (ne2 n e)]; exact x a ob e m
/-- H without l -/
noncomputable def Vw (ls : List Addr) (H : AH) : AH := ls.foldr (fun l H => Mine.del H l) H
theorem vw_some : ∀ {ls : List Addr} {H : AH} {a : Addr} {o : AO}, H a = some o → a ∉ ls → Vw ls H a = some o
  | [], _, _, _, e, _ => e
  | l :: ls, H, a, o, e, n => by
    show Mine.del (Vw ls H) l a = some o
    rw [del_ne (by rintro rfl; exact n (.head _))]
    exact vw_some e fun m => n (.tail _ m)
theorem vw_inv : ∀ {ls : List Addr} {H : AH} {a : Addr} {o : AO}, Vw ls H a = some o → o ≠ .lent → a ∉ ls ∧ H a = some o
  | [], _, _, _, e, _ => ⟨by simp, e⟩
  | l :: ls, H, a, o, e, n => by
    have e : Mine.del (Vw ls H) l a = some o := e
    by_cases z : a = l
    · subst z; rw [del_same] at e; cases e; exact absurd rfl n
    · rw [del_ne z] at e
      obtain ⟨h1, h2⟩ := vw_inv e n
      exact ⟨fun m => by rcases List.mem_cons.mp m with rfl | m; exact z rfl; exact h1 m, h2⟩
theorem ItemAt.vw {ls ls' : List Addr} {H H' : AH} (k : ∀ a o, H a = some o → a ∉ ls → H' a = some o ∧ a ∉ ls') {it : AV} {ps : Str × Strct} (h : ItemAt (Vw ls H) it ps) : ItemAt (Vw ls' H') it ps := by
  obtain ⟨fl, md, e, h1, h2⟩ := h
  obtain ⟨x1, x2⟩ := vw_inv h1 (by simp)
  obtain ⟨y1, y2⟩ := vw_inv h2 (by simp)
  exact ⟨fl, md, e, vw_some (k _ _ x2 x1).1 (k _ _ x2 x1).2, vw_some (k _ _ y2 y1).1 (k _ _ y2 y1).2⟩
theorem RowsAt.vw {ls ls' : List Addr} {H H' : AH} (k : ∀ a o, H a = some o → a ∉ ls → H' a = some o ∧ a ∉ ls') {rl : Addr} {row : SRow} (h : RowsAt (Vw ls H) rl row) : RowsAt (Vw ls' H') rl row := by
  obtain ⟨items, e, h⟩ := h
  obtain ⟨x1, x2⟩ := vw_inv e (by simp)
  exact ⟨items, vw_some (k _ _ x2 x1).1 (k _ _ x2 x1).2, h.mono fun _ _ => ItemAt.vw k⟩
section
variable {c : Cfg} {k : Nat} {H : AH}
set_option maxRecDepth 100000 in
set_option maxHeartbeats 4000000 in
theorem c_law_drawn {b : Addr} {Q : AV → AH → Prop} (hb : SourceAt H b) (q : ∀ ll layers H', But b H H' → DrawnOk layers → LayersAt H' ll layers → Q (.ref ll) H') : Cl c (k + 4) (.ref 284) [.ref b] H Q := by
  refine Cl_fn ["source"] (fun P => rfl) (fun P => rfl) (fun vs h => ?_) ?_ ?_ (fun F fs => ?_)
  · obtain ⟨a, rfl⟩ := len1 h; rfl
  · decide
  · decide
  · refine W_execs_cons ?_
    refine W_Assign_Swap ["many", "layers"] ?_
    repeat walk_at "s"
    refine c_law_take hb (by decide) (by decide) fun r o hr0 hr1 ho => ?_
    repeat walk_at "s"
    have hS0 : SourceAt (upd H b o) b := ho.at
    have K0 : But b H (upd H b o) := But.refl.upd
    generalize upd H b o = H0 at hS0 K0 ⊢
    clear ho o
    refine W_newList fun lay nlay => ?_
    repeat walk_at "s"
    refine ⟨_, rfl, rfl, ?_⟩
    repeat walk_at "s"
    obtain ⟨many, hmany, em⟩ : ∃ many : Nat, (many = 3 ∨ many = 4) ∧ (3 + r : Int) = (many : Int) := ⟨(3 + r).toNat, by lia, by lia⟩
    rw [em]
    have hSb : SourceAt (upd H0 lay (.list [])) b := hS0.add nlay
    have K1 : But b H (upd H0 lay (.list [])) := K0.add nlay
    have hlay : upd H0 lay (.list []) lay = some (.list []) := upd_same ..
    have nbl : b ≠ lay := hS0.ne nlay
    have nlayH : H lay = none := by
      cases e : H lay with
      | none => rfl
      | some o => have := K0 _ _ e nbl.symm; rw [nlay] at this; cases this
    generalize upd H0 lay (.list []) = H1 at hSb K1 hlay ⊢
    clear nlay K0 hS0 H0
    let J1 : JF := fun as own d am H' => A8 (as = rangeA many) (own = none) (am "source" = some (.ref b)) (am "many" = some (.int many)) (am "layers" = some (.ref lay)) (But b H H') (SourceAt H' b) (∃ (rls : List Addr) (layers : List SRow), A4 (H' lay = some (.list (rls.map .ref))) (All2 (RowsAt (Vw [b, lay] H')) rls layers) (layers.length = d) (∀ (j : Nat) (row : SRow), layers[j]? = some row → RowOk many j row))
    refine W_ForH J1 (WI_range ?_)
    repeat walk_at "s"
    refine ⟨many, rfl, by lia, ⟨rfl, rfl, rfl, rfl, rfl, K1, hSb, [], [], hlay, .nil, rfl, fun j row e => by simp at e⟩, ?_, ?_⟩
    · clear hlay K1 hSb H1 em
      rintro d a am H2 ha ⟨-, -, m1, m2, m3, K2, hS2, rls, layers, hlay, hall, hlen, hrow⟩
      intro Q' hQ'
      have hd : d < many := by have := (List.getElem?_eq_some_iff.mp ha).1; unfold rangeA at this; simpa using this
      have ea : a = .int (d : Int) := by
        unfold rangeA at ha
        rw [List.getElem?_map, List.getElem?_range hd] at ha
        exact (Option.some.inj ha).symm
      subst ea
      refine W_aName ?_
      repeat walk_at "s"
      refine W_newList fun rw nrw => ?_
      repeat walk_at "s"
      have nrb : b ≠ rw := hS2.ne nrw
      have hS3 : SourceAt (upd H2 rw (.list [])) b := hS2.add nrw
      have K3 : But b H2 (upd H2 rw (.list [])) := But.refl.add nrw
      have hrw : upd H2 rw (.list []) rw = some (.list []) := upd_same ..
      generalize upd H2 rw (.list []) = H3 at hS3 K3 hrw ⊢
      let J2 : JF := fun as own j am H' => A10 (as = chars "AB") (own = none) (am "source" = some (.ref b)) (am "many" = some (.int many)) (am "layers" = some (.ref lay)) (am "depth" = some (.int d)) (am "row" = some (.ref rw)) (But b H2 H') (SourceAt H' b) (∃ (items : List AV) (row : SRow), A4 (H' rw = some (.list items)) (All2 (ItemAt (Vw [b, rw, lay] H')) items row) (row.map (·.1) = ((letters "AB").take j).map (fun l => pthS l d)) (∀ ps ∈ row, StOk many d ps.1 ps.2))
      refine W_ForH J2 (WI_str ?_)
      repeat walk_at "s"
      refine ⟨_, rfl, ⟨rfl, rfl, m1, m2, m3, rfl, rfl, K3, hS3, [], [], hrw, .nil, rfl, by simp⟩, ?_, ?_⟩
      · clear K3 hS3 hrw H3
        rintro j a am X hj ⟨-, -, m1, m2, m3, m4, m5, K4, hS4, items, row, hrw4, hall4, hpaths, hst⟩
        intro Q' hQ'
        rw [chars_letters] at hj
        obtain ⟨L, hL, rfl⟩ := Option.map_eq_some_iff.mp (List.getElem?_map .. ▸ hj)
        have hLl : L.length ≤ 10 := by
          exact letters_AB L (List.mem_of_getElem? hL)
        have hd10 := ds_le d (by lia)
        have hd11 := ds_le (d + 1) (by lia)
        refine W_aName ?_
        let J3 : JC := fun am H' => A8 (am "source" = some (.ref b)) (am "many" = some (.int many)) (am "layers" = some (.ref lay)) (am "depth" = some (.int d)) (am "row" = some (.ref rw)) (am "letter" = some (.str L)) (am "path" = some (.str (pthS L d))) (∃ fl md, A9 (am "fields" = some (.ref fl)) (am "methods" = some (.ref md)) (But b X H') (SourceAt H' b) (X fl = none) (X md = none) (fl ≠ md) (H' fl = some (.list [])) (H' md = some (.dict [])))
        refine W_cut J3 ?_ ?_
        · refine W_Assign_Swap ["path", "fields", "methods"] ?_
          repeat walk_at "s"
          refine W_add_str ?_ (by have : ("m." : Str).length = 2 := by decide
                                  lia)
          repeat walk_at "s"
          refine S_CallT (T := "str") rfl rfl rfl (by decide) rfl rfl rfl (fun _ => rfl) boot_str (by decide) ?_
          repeat walk_at "s"
          refine W_str_int (log2_small (by lia)) ?_
          refine W_add_str ?_ (by rw [strLen_append, show ("m." : Str).length = 2 from by decide]; show _ + (ds d).length ≤ _; lia)
          repeat walk_at "s"
          refine W_newList fun fl nfl => ?_
          repeat walk_at "s"
          refine W_Dict0 fun md nmd => ?_
          repeat walk_at "s"
          refine ⟨_, rfl, rfl, rfl, m1, m2, m3, m4, m5, rfl, rfl, fl, md, rfl, rfl, (But.refl.add nfl).add nmd, (hS4.add nfl).add nmd, nfl, (upd_none.mp nmd).2, (upd_none.mp nmd).1.symm, upd_old nmd (upd_same ..), upd_same ..⟩
        clear m1 m2 m3 m4 m5
        rintro am H5 ⟨m1, m2, m3, m4, m5, m6, m7, fl, md, m8, m9, K5, hS5, nfX, nmX, nfm, hfl5, hmd5⟩
        let J4 : JC := fun am H' => A12 (am "source" = some (.ref b)) (am "many" = some (.int many)) (am "layers" = some (.ref lay)) (am "depth" = some (.int d)) (am "row" = some (.ref rw)) (am "letter" = some (.str L)) (am "path" = some (.str (pthS L d))) (am "fields" = some (.ref fl)) (am "methods" = some (.ref md)) (But b X H') (SourceAt H' b) (∃ f0 ∈ optF, H' fl = some (.list ((f0.map plainF).map Fld.av)) ∧ H' md = some (.dict []))
        refine W_cut J4 ?_ ?_
        · let J5 : JF := fun as own i am H' => A12 (am "source" = some (.ref b)) (am "many" = some (.int many)) (am "layers" = some (.ref lay)) (am "depth" = some (.int d)) (am "row" = some (.ref rw)) (am "letter" = some (.str L)) (am "path" = some (.str (pthS L d))) (am "fields" = some (.ref fl)) (am "methods" = some (.ref md)) (But b X H') (SourceAt H' b) (∃ (li : Addr) (f0 : List Str), A9 (f0 ∈ optF) (as = f0.map .str) (own = some (li, .list (f0.map .str))) (X li = none) (b ≠ li) (fl ≠ li) (md ≠ li) (H' fl = some (.list (((f0.take i).map plainF).map Fld.av))) (H' md = some (.dict [])))
          refine W_ForH J5 (WI_list ?_)
          with_reducible refine W_hide fun R' hR' => ?_
          repeat walk_at "s"
          refine W_newList fun l1 n1 => ?_
          repeat walk_at "s"
          refine W_newList fun l2 n2 => ?_
          repeat walk_at "s"
          refine W_newList fun l3 n3 => ?_
          repeat walk_at "s"
          refine W_newList fun l4 n4 => ?_
          repeat walk_at "s"
          refine W_newList fun l5 n5 => ?_
          repeat walk_at "s"
          have V5 := five (a5 := .list [.ref l1, .ref l2, .ref l3, .ref l4]) n1 n2 n3 n4 n5
          generalize upd (upd (upd (upd (upd H5 l1 (.list [])) l2 (.list [])) l3 (.list [.str "f"])) l4 (.list [.str "g"])) l5 (.list [.ref l1, .ref l2, .ref l3, .ref l4]) = H6 at V5 ⊢
          clear n1 n2 n3 n4 n5
          obtain ⟨o1, e1, e2, e3, e4, e5, c1, c2, c3, c4, c5⟩ := V5
          have hS6 : SourceAt H6 b := hS5.map o1
          refine c_law_one hS6 e5 (hS5.ne c5) (by simp) (by simp) fun i a o hi ho => ?_
          obtain ⟨li, f0, hf0, rfl, hli, cli⟩ : ∃ (li : Addr) (f0 : List Str), f0 ∈ optF ∧ a = .ref li ∧ H6 li = some (.list (f0.map .str)) ∧ H5 li = none := by
            rcases get4 hi with rfl | rfl | rfl | rfl
            · exact ⟨l1, [], by decide, rfl, e1, c1⟩
            · exact ⟨l2, [], by decide, rfl, e2, c2⟩
            · exact ⟨l3, ["f"], by decide, rfl, e3, c3⟩
            · exact ⟨l4, ["g"], by decide, rfl, e4, c4⟩
          have nbl : b ≠ li := hS5.ne cli
          have liX := K5.new cli nbl
          have nfl : fl ≠ li := ne2 cli hfl5
          have nml : md ≠ li := ne2 cli hmd5
          have nbf : b ≠ fl := by rintro rfl; obtain ⟨y, m, h1, _⟩ := hS5; rw [h1] at hfl5; cases hfl5
          have nbm : b ≠ md := by rintro rfl; obtain ⟨y, m, h1, _⟩ := hS5; rw [h1] at hmd5; cases hmd5
          refine hR' _ _ _ ?_
          refine ⟨li, _, rfl, by rw [upd_ne nbl.symm]; exact hli, ⟨m1, m2, m3, m4, m5, m6, m7, m8, m9, ?_, ho.at.delN nbl, li, f0, hf0, rfl, rfl, liX, nbl, nfl, nml, ?_, ?_⟩, ?_, ?_⟩
          · refine But.delN (fun a ob e n => ?_) liX
            rw [upd_ne n]; exact o1 (K5 _ _ e n)
          · rw [del_ne nfl, upd_ne nbf.symm]; exact o1 hfl5
          · rw [del_ne nml, upd_ne nbm.symm]; exact o1 hmd5
          · clear m1 m2 m3 m4 m5 m6 m7 m8 m9 hli liX nfl nml nbl cli hf0 hi
            rintro i a am H7 hi ⟨m1, m2, m3, m4, m5, m6, m7, m8, m9, K7, hS7, li, f0, hf0, e1, e2, liX, nbl, nfl, nml, hfl7, hmd7⟩
            intro Q' hQ'
            rw [e1] at hi
            obtain ⟨x, hx, rfl⟩ := Option.map_eq_some_iff.mp (List.getElem?_map .. ▸ hi)
            have hf2 : f0.length ≤ 2 := optF_le f0 hf0
            refine W_aName ?_
            repeat walk_at "s"
            refine WM_listM hfl7 slot_list_append (by kernel_rfl) ?_
            repeat walk_at "s"
            refine W_append hfl7 (by simp only [List.length_map, List.length_take]; lia) ?_
            repeat walk_at "s"
            refine ⟨m1, m2, m3, m4, m5, m6, m7, m8, m9, K7.put nfX, hS7.put nbf, li, f0, hf0, e1, e2, liX, nbl, nfl, nml, ?_, by rw [upd_ne nfm.symm]; exact hmd7⟩
            rw [upd_same, take_next hx]; simp [plainF]
          · clear m1 m2 m3 m4 m5 m6 m7 m8 m9 hli liX nfl nml nbl cli hf0 hi
            rintro am H7 ⟨m1, m2, m3, m4, m5, m6, m7, m8, m9, K7, hS7, li', f0', hf0, e1, e2, liX, nbl, nfl, nml, hfl7, hmd7⟩
            have eli : li = li' := congrArg Prod.fst (Option.some.inj e2)
            subst eli
            refine ⟨rfl, m1, m2, m3, m4, m5, m6, m7, m8, m9, K7.resN liX, hS7.resN nbl, f0', hf0, ?_, by rw [restore_ne nml]; exact hmd7⟩
            rw [restore_ne nfl, hfl7, List.take_of_length_le (by rw [e1, List.length_map]; exact Nat.le_refl _)]
        clear m1 m2 m3 m4 m5 m6 m7 m8 m9 K5 hS5 hfl5 hmd5 H5
        rintro am H5 ⟨m1, m2, m3, m4, m5, m6, m7, m8, m9, K5, hS5, f0, hf0, hfl5, hmd5⟩
        have hf2 : f0.length ≤ 2 := optF_le f0 hf0
        have nbf : b ≠ fl := hS4.ne nfX
        have nbm : b ≠ md := hS4.ne nmX
        let J6 : JC := fun am H' => A12 (am "source" = some (.ref b)) (am "many" = some (.int many)) (am "layers" = some (.ref lay)) (am "depth" = some (.int d)) (am "row" = some (.ref rw)) (am "letter" = some (.str L)) (am "path" = some (.str (pthS L d))) (am "fields" = some (.ref fl)) (am "methods" = some (.ref md)) (But b X H') (SourceAt H' b) (∃ (es : List (Str × Bool)) (x : Str), A4 (es.map (·.1) = letters x) ((if d + 1 < many then x ∈ optE else x = "")) (H' fl = some (.list ((f0.map plainF ++ es.map (embF d)).map Fld.av))) (H' md = some (.dict [])))
        refine W_cut J6 ?_ ?_
        · let J7 : JF := fun as own i am H' => A13 (am "source" = some (.ref b)) (am "many" = some (.int many)) (am "layers" = some (.ref lay)) (am "depth" = some (.int d)) (am "row" = some (.ref rw)) (am "letter" = some (.str L)) (am "path" = some (.str (pthS L d))) (am "fields" = some (.ref fl)) (am "methods" = some (.ref md)) (But b X H') (SourceAt H' b) (own = none) (∃ (es : List (Str × Bool)) (x : Str), A5 (as = chars x) (es.map (·.1) = (letters x).take i) ((if d + 1 < many then x ∈ optE else x = "")) (H' fl = some (.list ((f0.map plainF ++ es.map (embF d)).map Fld.av))) (H' md = some (.dict [])))
          refine W_ForH J7
            (WI_str (W.mono (Q := fun a am' H' => am' = am ∧ But b X H' ∧ SourceAt H' b ∧ H' fl = some (.list ((f0.map plainF).map Fld.av)) ∧ H' md = some (.dict []) ∧ ∃ x, a = .str x ∧ (if d + 1 < many then x ∈ optE else x = "")) ?_ ?_))
          · repeat walk_at "s"
            by_cases hdm : d + 1 < many
            · refine ifT (decide_eq_true (by lia)) ?_
              repeat walk_at "s"
              refine W_newList fun l1 n1 => ?_
              repeat walk_at "s"
              have nbl : b ≠ l1 := hS5.ne n1
              refine c_law_one (hS5.add n1) (upd_same ..) nbl (by simp) (by simp) fun i a o hi ho => ?_
              refine ⟨rfl, (K5.add n1).upd, ho.at, by rw [upd_ne nbf.symm]; exact upd_old n1 hfl5, by rw [upd_ne nbm.symm]; exact upd_old n1 hmd5, ?_⟩
              rcases get4 hi with rfl | rfl | rfl | rfl
              · exact ⟨"A", rfl, by rw [if_pos hdm]; decide⟩
              · exact ⟨"B", rfl, by rw [if_pos hdm]; decide⟩
              · exact ⟨"AB", rfl, by rw [if_pos hdm]; decide⟩
              · exact ⟨"BA", rfl, by rw [if_pos hdm]; decide⟩
            · refine ifF (decide_eq_false (by lia)) ?_
              repeat walk_at "s"
              exact ⟨rfl, K5, hS5, hfl5, hmd5, "", rfl, by rw [if_neg hdm]⟩
          clear K5 hS5 hfl5 hmd5 H5
          rintro a am' H5 ⟨rfl, K5, hS5, hfl5, hmd5, x, rfl, hx⟩
          refine ⟨x, rfl, ⟨m1, m2, m3, m4, m5, m6, m7, m8, m9, K5, hS5, rfl, [], x, rfl, rfl, hx, by rw [List.map_nil, List.append_nil]; exact hfl5, hmd5⟩, ?_, ?_⟩
          · clear m1 m2 m3 m4 m5 m6 m7 m8 m9 K5 hS5 hfl5 hmd5 H5 hx
            rintro i a am H6 hi ⟨m1, m2, m3, m4, m5, m6, m7, m8, m9, K6, hS6, -, es, x', hx', hes, hx, hfl6, hmd6⟩
            intro Q' hQ'
            rw [hx', chars_letters] at hi
            obtain ⟨e, he, rfl⟩ := Option.map_eq_some_iff.mp (List.getElem?_map .. ▸ hi)
            have hel : e.length = 1 := by
              obtain ⟨cc, _, rfl⟩ := List.mem_map.mp (List.mem_of_getElem? he)
              rfl
            have hxl : (letters x').length ≤ 2 := by
              by_cases hdm : d + 1 < many
              · rw [if_pos hdm] at hx; exact optE_le x' hx
              · rw [if_neg hdm] at hx; rw [hx]; decide
            have hesl : es.length ≤ 2 := by
              have := congrArg List.length hes
              rw [List.length_map, List.length_take] at this; lia
            refine W_aName ?_
            repeat walk_at "s"
            refine W_add_str ?_ (by have : ("m." : Str).length = 2 := by decide
                                    lia)
            repeat walk_at "s"
            refine S_CallT (T := "str") rfl rfl rfl (by decide) rfl rfl rfl (fun _ => rfl) boot_str (by decide) ?_
            repeat walk_at "s"
            refine W_str_int (x := ((d + 1 : Nat) : Int)) (log2_small (by lia)) ?_
            have hp : (("m." : Str) ++ e).length + (ds (d + 1)).length ≤ 100000 := by
              rw [strLen_append, show ("m." : Str).length = 2 from by decide]; lia
            refine W_add_str ?_ hp
            repeat walk_at "s"
            refine WM_listM hfl6 slot_list_append (by kernel_rfl) ?_
            repeat walk_at "s"
            refine S_CallT (T := "str") rfl rfl rfl (by decide) rfl rfl rfl (fun _ => rfl) boot_str (by decide) ?_
            repeat walk_at "s"
            refine W_str_int (x := ((d + 1 : Nat) : Int)) (log2_small (by lia)) ?_
            refine W_add_str ?_ (by show _ + (ds (d + 1)).length ≤ _; lia)
            repeat walk_at "s"
            refine W_newList fun l1 n1 => ?_
            repeat walk_at "s"
            have nbl : b ≠ l1 := hS6.ne n1
            refine c_law_one (hS6.add n1) (upd_same ..) nbl (by simp) (by simp) fun i2 a o hi2 ho => ?_
            obtain ⟨ptr, rfl⟩ : ∃ ptr, a = embTy ptr (pthS e (d + 1)) := by
              rcases get2 hi2 with rfl | rfl
              · exact ⟨false, rfl⟩
              · exact ⟨true, rfl⟩
            repeat walk_at "s"
            refine W_append (l := fl) (as := (f0.map plainF ++ es.map (embF d)).map Fld.av) (by rw [upd_ne nbf.symm]; exact upd_old n1 hfl6) (by simp only [List.length_map, List.length_append]; lia) ?_
            repeat walk_at "s"
            refine ⟨m1, m2, m3, m4, m5, m6, m7, m8, m9, ((K6.add n1).upd).put nfX, ho.at.put nbf, rfl, es ++ [(e, ptr)], x', hx', ?_, hx, ?_, ?_⟩
            · rw [List.map_append, hes, take_next he]; rfl
            · rw [upd_same]; simp only [List.map_append, List.append_assoc]; rfl
            · rw [upd_ne nfm.symm, upd_ne nbm.symm]; exact upd_old n1 hmd6
          · clear m1 m2 m3 m4 m5 m6 m7 m8 m9 K5 hS5 hfl5 hmd5 H5 hx
            rintro am H6 ⟨m1, m2, m3, m4, m5, m6, m7, m8, m9, K6, hS6, -, es, x', hx', hes, hx, hfl6, hmd6⟩
            refine ⟨rfl, m1, m2, m3, m4, m5, m6, m7, m8, m9, K6, hS6, es, x', ?_, hx, hfl6, hmd6⟩
            rw [hes, hx', chars_letters, List.length_map, List.take_length]
        clear m1 m2 m3 m4 m5 m6 m7 m8 m9 K5 hS5 hfl5 hmd5 H5
        rintro am H5 ⟨m1, m2, m3, m4, m5, m6, m7, m8, m9, K5, hS5, es, x, hes, hx, hfl5, hmd5⟩
        have hesl : es.length ≤ 2 := by
          have := congrArg List.length hes
          rw [List.length_map] at this
          rw [this]
          by_cases hdm : d + 1 < many
          · rw [if_pos hdm] at hx; exact optE_le x hx
          · rw [if_neg hdm] at hx; rw [hx]; decide
        generalize hFL : f0.map plainF ++ es.map (embF d) = FL at hfl5
        have hFLl : FL.length ≤ 4 := by rw [← hFL, List.length_append, List.length_map, List.length_map]; lia
        let J8 : JC := fun am H' => A13 (am "source" = some (.ref b)) (am "many" = some (.int many)) (am "layers" = some (.ref lay)) (am "depth" = some (.int d)) (am "row" = some (.ref rw)) (am "letter" = some (.str L)) (am "path" = some (.str (pthS L d))) (am "fields" = some (.ref fl)) (am "methods" = some (.ref md)) (But b X H') (SourceAt H' b) (H' fl = some (.list (FL.map Fld.av))) (∃ (ns : List Str) (ms : List (Str × Mth)), A4 (ns ∈ optM) (H' md = some (.dict (ms.map fun m => (m.1, m.2.av)))) ((ms.map (·.1)).Sublist ns) (MsOk (FL.map Fld.name) (pthS L d) ms))
        refine W_cut J8 ?_ ?_
        · let J9 : JF := fun as own i am H' => A13 (am "source" = some (.ref b)) (am "many" = some (.int many)) (am "layers" = some (.ref lay)) (am "depth" = some (.int d)) (am "row" = some (.ref rw)) (am "letter" = some (.str L)) (am "path" = some (.str (pthS L d))) (am "fields" = some (.ref fl)) (am "methods" = some (.ref md)) (But b X H') (SourceAt H' b) (H' fl = some (.list (FL.map Fld.av))) (∃ (li : Addr) (ns : List Str) (ms : List (Str × Mth)), A10 (ns ∈ optM) (as = ns.map .str) (own = some (li, .list (ns.map .str))) (X li = none) (b ≠ li) (fl ≠ li) (md ≠ li) (H' md = some (.dict (ms.map fun m => (m.1, m.2.av)))) ((ms.map (·.1)).Sublist (ns.take i)) (MsOk (FL.map Fld.name) (pthS L d) ms))
          refine W_ForH J9 (WI_list ?_)
          with_reducible refine W_hide fun R' hR' => ?_
          repeat walk_at "s"
          refine W_newList fun l1 n1 => ?_
          repeat walk_at "s"
          refine W_newList fun l2 n2 => ?_
          repeat walk_at "s"
          refine W_newList fun l3 n3 => ?_
          repeat walk_at "s"
          refine W_newList fun l4 n4 => ?_
          repeat walk_at "s"
          refine W_newList fun l5 n5 => ?_
          repeat walk_at "s"
          have V5 := five (a5 := .list [.ref l1, .ref l2, .ref l3, .ref l4]) n1 n2 n3 n4 n5
          generalize upd (upd (upd (upd (upd H5 l1 (.list [])) l2 (.list [.str "M"])) l3 (.list [.str "g", .str "M"])) l4 (.list [.str "h"])) l5 (.list [.ref l1, .ref l2, .ref l3, .ref l4]) = H6 at V5 ⊢
          clear n1 n2 n3 n4 n5
          obtain ⟨o1, e1, e2, e3, e4, e5, c1, c2, c3, c4, c5⟩ := V5
          have hS6 : SourceAt H6 b := hS5.map o1
          refine c_law_one hS6 e5 (hS5.ne c5) (by simp) (by simp) fun i a o hi ho => ?_
          obtain ⟨li, ns, hns, rfl, hli, cli⟩ : ∃ (li : Addr) (ns : List Str), ns ∈ optM ∧ a = .ref li ∧ H6 li = some (.list (ns.map .str)) ∧ H5 li = none := by
            rcases get4 hi with rfl | rfl | rfl | rfl
            · exact ⟨l1, [], by decide, rfl, e1, c1⟩
            · exact ⟨l2, ["M"], by decide, rfl, e2, c2⟩
            · exact ⟨l3, ["g", "M"], by decide, rfl, e3, c3⟩
            · exact ⟨l4, ["h"], by decide, rfl, e4, c4⟩
          have nbl : b ≠ li := hS5.ne cli
          have liX := K5.new cli nbl
          have nfl : fl ≠ li := ne2 cli hfl5
          have nml : md ≠ li := ne2 cli hmd5
          refine hR' _ _ _ ?_
          refine ⟨li, _, rfl, by rw [upd_ne nbl.symm]; exact hli, ⟨m1, m2, m3, m4, m5, m6, m7, m8, m9, ?_, ho.at.delN nbl, ?_, li, ns, [], hns, rfl, rfl, liX, nbl, nfl, nml, ?_, by simp, fun m h => by cases h⟩, ?_, ?_⟩
          · refine But.delN (fun a ob e n => ?_) liX
            rw [upd_ne n]; exact o1 (K5 _ _ e n)
          · rw [del_ne nfl, upd_ne nbf.symm]; exact o1 hfl5
          · rw [del_ne nml, upd_ne nbm.symm]; exact o1 hmd5
          · clear m1 m2 m3 m4 m5 m6 m7 m8 m9 hli liX nfl nml nbl cli hns hi
            rintro i a am H7 hi ⟨m1, m2, m3, m4, m5, m6, m7, m8, m9, K7, hS7, hfl7, li, ns, ms, hns, e1, e2, liX, nbl, nfl, nml, hmd7, hsub, hms⟩
            intro Q' hQ'
            rw [e1] at hi
            obtain ⟨y, hy, rfl⟩ := Option.map_eq_some_iff.mp (List.getElem?_map .. ▸ hi)
            refine W_aName ?_
            repeat walk_at "s"
            let J10 : JL := fun as own D j acc H'' => A5 (as = FL.map Fld.av) (own = some (fl, .list (FL.map Fld.av))) (Sub (del H7 fl) H'') (H7 D = none) (acc = ((FL.map Fld.name).take j).map .str)
            refine W_ListComp J10 (WI_list ?_)
            repeat walk_at "s"
            refine ⟨fl, _, rfl, hfl7, by rw [List.length_map]; lia, fun D nD => ⟨⟨rfl, rfl, Sub.upd nD, (upd_none.mp nD).2, rfl⟩, ?_, ?_⟩⟩
            · rintro j2 it acc C H'' hj2 hD ⟨-, -, S, nD, hacc⟩
              obtain ⟨f, hf, rfl⟩ := Option.map_eq_some_iff.mp (List.getElem?_map .. ▸ hj2)
              refine W_tests0 ?_
              refine ifT rfl ?_
              repeat walk_at "s"
              refine ⟨hD, rfl, rfl, S.over (by rw [del_ne (ne1 nD hfl7)]; exact nD), nD, ?_⟩
              rw [take_next (l := FL.map Fld.name) (x := f.name) (by rw [List.getElem?_map, hf]; rfl), List.map_append, ← hacc]
              rfl
            rintro acc H'' hD ⟨-, -, S, nD', hacc⟩
            rw [List.length_map, ← List.length_map (f := Fld.name), List.take_length] at hacc
            rw [hacc] at hD
            have SB : Sub H7 (restore (some (fl, AO.list (FL.map Fld.av))) H'') := sub_back hfl7 S
            have hD' : restore (some (fl, AO.list (FL.map Fld.av))) H'' D = some (.list ((FL.map Fld.name).map .str)) := by
              rw [restore_ne (ne1 nD' hfl7)]; exact hD
            generalize restore (some (fl, AO.list (FL.map Fld.av))) H'' = H8 at SB hD' ⊢
            clear hD hacc S H'' acc
            refine W_notIn_list hD' ?_
            repeat walk_at "s"
            have hmd8 := SB _ _ hmd7
            have hfl8 := SB _ _ hfl7
            have K8 : But b X H8 := fun a o e n => SB _ _ (K7 a o e n)
            have hS8 : SourceAt H8 b := by obtain ⟨u, m, h1, h2⟩ := hS7; exact ⟨u, m, SB _ _ h1, h2⟩
            have hyl := optM_len ns hns y (List.mem_of_getElem? hy)
            by_cases z : y ∈ FL.map Fld.name
            · have e3 : (FL.map Fld.name).any (· == y) = true := List.any_eq_true.mpr ⟨y, z, by simp⟩
              refine ifF (by rw [e3]; rfl) ?_
              repeat walk_at "s"
              refine ⟨m1, m2, m3, m4, m5, m6, m7, m8, m9, K8, hS8, hfl8, li, ns, ms, hns, e1, e2, liX, nbl, nfl, nml, hmd8, ?_, hms⟩
              rw [take_next hy]; exact hsub.trans (List.sublist_append_left ..)
            · have e3 : (FL.map Fld.name).any (· == y) = false := by
                rw [Bool.eq_false_iff]; intro e
                obtain ⟨y', my, ey⟩ := List.any_eq_true.mp e
                have : y' = y := by simpa using ey
                exact z (this ▸ my)
              refine ifT (by rw [e3]; rfl) ?_
              repeat walk_at "s"
              refine c_law_take hS8 (by decide) (by decide) fun r o hr0 hr1 ho => ?_
              repeat walk_at "s"
              refine W_glob (fun _ => rfl) lawFunc_R ?_
              repeat walk_at "s"
              have hpl : (pthS L d).length ≤ 30 := by
                rw [strLen_append, strLen_append, show ("m." : Str).length = 2 from by decide]; lia
              have hdot : ("." : Str).length = 1 := by decide
              refine W_add_str ?_ (by lia)
              repeat walk_at "s"
              refine W_add_str ?_ (by rw [strLen_append]; lia)
              repeat walk_at "s"
              have hmd9 : upd H8 b o md = some (.dict (ms.map fun m => (m.1, m.2.av))) := by rw [upd_ne nbm.symm]; exact hmd8
              have hml : ms.length ≤ 2 := by
                have h1 := hsub.length_le
                rw [List.length_map, List.length_take] at h1
                have := optM_le ns hns
                lia
              refine W_setItem_dict hmd9 (by rw [List.length_map]; lia) ?_
              repeat walk_at "s"
              refine ⟨m1, m2, m3, m4, m5, m6, m7, m8, m9, (K8.upd).put nmX, ho.at.put nbm, by rw [upd_ne nfm, upd_ne nbf.symm]; exact hfl8, li, ns, ms ++ [(y, ⟨decide (r = 0), lawFuncA, .str (pthS L d ++ "." ++ y)⟩)], hns, e1, e2, liX, nbl, nfl, nml, ?_, ?_, ?_⟩
              · rw [upd_same, store_fresh, List.map_append]
                · rfl
                · rw [List.map_map]
                  exact fun m => take_not_mem (optM_nodup ns hns) hy (hsub.subset m)
              · rw [take_next hy, List.map_append]
                exact List.Sublist.append hsub (List.Sublist.refl _)
              · intro m hm
                rcases List.mem_append.mp hm with hm | hm
                · exact hms m hm
                · rw [List.mem_singleton.mp hm]; exact ⟨z, rfl, rfl⟩
          · clear m1 m2 m3 m4 m5 m6 m7 m8 m9 hli liX nfl nml nbl cli hns hi
            rintro am H7 ⟨m1, m2, m3, m4, m5, m6, m7, m8, m9, K7, hS7, hfl7, li', ns', ms, hns, e1, e2, liX, nbl, nfl, nml, hmd7, hsub, hms⟩
            have eli : li = li' := congrArg Prod.fst (Option.some.inj e2)
            subst eli
            refine ⟨rfl, m1, m2, m3, m4, m5, m6, m7, m8, m9, K7.resN liX, hS7.resN nbl, by rw [restore_ne nfl]; exact hfl7, ns', ms, hns, by rw [restore_ne nml]; exact hmd7, ?_, hms⟩
            rw [List.take_of_length_le (by rw [e1, List.length_map]; exact Nat.le_refl _)] at hsub
            exact hsub
        clear m1 m2 m3 m4 m5 m6 m7 m8 m9 K5 hS5 hfl5 hmd5 H5
        rintro am H5 ⟨m1, m2, m3, m4, m5, m6, m7, m8, m9, K5, hS5, hfl5, ns, ms, hns, hmd5, hsub, hms⟩
        repeat walk_at "s"
        have hrw5 : H5 rw = some (.list items) := K5 _ _ hrw4 nrb.symm
        have nfr : fl ≠ rw := ne1 nfX hrw4
        have nmr : md ≠ rw := ne1 nmX hrw4
        have hlayX : X lay = some (.list (rls.map .ref)) := K4 _ _ hlay nbl.symm
        have nfl : fl ≠ lay := ne1 nfX hlayX
        have nml : md ≠ lay := ne1 nmX hlayX
        have nbf : b ≠ fl := hS4.ne nfX
        have nbm : b ≠ md := hS4.ne nmX
        have hj2 : j < 2 := (List.getElem?_eq_some_iff.mp hL).1
        have hil : items.length ≤ 2 := by
          have h1 := congrArg List.length hpaths
          rw [List.length_map, List.length_map, List.length_take] at h1
          have := hall4.len; lia
        refine WM_listM hrw5 slot_list_append (by kernel_rfl) ?_
        repeat walk_at "s"
        refine W_append hrw5 (by lia) ?_
        repeat walk_at "s"
        have nrX : ∀ {a o}, H5 a = some o → a ≠ rw → upd H5 rw (.list (items ++ [.tup [.str (pthS L d), .ref fl, .ref md]])) a = some o := fun {a o} e n => by rw [upd_ne n]; exact e
        refine ⟨rfl, rfl, m1, m2, m3, m4, m5, (K4.trans K5).put nrw, hS5.put nrb, _, row ++ [(pthS L d, ⟨FL, ms⟩)], upd_same .., ?_, ?_, ?_⟩
        · refine (hall4.mono fun _ _ z => ItemAt.vw (fun a o e n => ?_) z).append (.cons ⟨fl, md, rfl, vw_some (nrX hfl5 nfr) ?_, vw_some (nrX hmd5 nmr) ?_⟩ .nil)
          · simp only [List.mem_cons, List.mem_nil_iff, or_false, not_or] at n ⊢
            exact ⟨nrX (K5 _ _ e n.1) n.2.1, n⟩
          · simp only [List.mem_cons, List.mem_nil_iff, or_false, not_or]; exact ⟨nbf.symm, nfr, nfl⟩
          · simp only [List.mem_cons, List.mem_nil_iff, or_false, not_or]; exact ⟨nbm.symm, nmr, nml⟩
        · rw [List.map_append, hpaths, take_next hL, List.map_append]; rfl
        · intro ps m
          rcases List.mem_append.mp m with m | m
          · exact hst ps m
          · rw [List.mem_singleton.mp m]
            exact ⟨f0, es, ns, ms, by rw [hFL], hf0, ⟨x, hes, hx⟩, hns, hsub, hms⟩
      · rintro am H4 ⟨-, -, m1, m2, m3, m4, m5, K4, hS4, items, row, hrw4, hall4, hpaths, hst⟩
        repeat walk_at "s"
        have hlay4 : H4 lay = some (.list (rls.map .ref)) := K4 _ _ hlay nbl.symm
        have nrl : rw ≠ lay := ne1 nrw hlay
        refine WM_listM hlay4 slot_list_append (by kernel_rfl) ?_
        repeat walk_at "s"
        have hrl : rls.length ≤ 4 := by have := hall.len; lia
        refine W_append hlay4 (by rw [List.length_map]; lia) ?_
        repeat walk_at "s"
        have up : ∀ {a o}, H4 a = some o → a ≠ lay → upd H4 lay (.list (rls.map AV.ref ++ [.ref rw])) a = some o := fun {a o} e n => by rw [upd_ne n]; exact e
        refine ⟨rfl, rfl, m1, m2, m3, (K2.trans K4).put nlayH, hS4.put nbl, rls ++ [rw], layers ++ [row], ?_, ?_, by rw [List.length_append, hlen]; rfl, ?_⟩
        · rw [upd_same, List.map_append]; rfl
        · refine (hall.mono fun _ _ z => RowsAt.vw (fun a o e n => ?_) z).append (.cons ⟨items, vw_some (up hrw4 nrl) ?_, hall4.mono fun _ _ z => ItemAt.vw (fun a o e n => ?_) z⟩ .nil)
          · simp only [List.mem_cons, List.mem_nil_iff, or_false, not_or] at n ⊢
            exact ⟨up (K4 _ _ e n.1) n.2, n⟩
          · simp only [List.mem_cons, List.mem_nil_iff, or_false, not_or]; exact ⟨nrb.symm, nrl⟩
          · simp only [List.mem_cons, List.mem_nil_iff, or_false, not_or] at n ⊢
            exact ⟨up e n.2.2, n.1, n.2.2⟩
        · intro j2 row2 h2
          by_cases hj2 : j2 < layers.length
          · exact hrow j2 row2 (by rw [List.getElem?_append_left hj2] at h2; exact h2)
          · rw [List.getElem?_append_right (by lia)] at h2
            have ej : j2 - layers.length = 0 := by
              by_cases z : j2 - layers.length = 0
              · exact z
              · rw [List.getElem?_eq_none (by simp; lia)] at h2; cases h2
            rw [ej] at h2
            have er : row2 = row := by simpa using h2.symm
            have ed : j2 = d := by lia
            subst er; subst ed
            have hp2 : row2.map (·.1) = [pthS "A" j2, pthS "B" j2] := hpaths
            obtain ⟨⟨p1, s1⟩, ⟨p2, s2⟩, rfl⟩ := len2 (l := row2) (by have := congrArg List.length hp2; rw [List.length_map] at this; exact this)
            simp only [List.map_cons, List.map_nil, List.cons.injEq, and_true] at hp2
            obtain ⟨rfl, rfl⟩ := hp2
            exact ⟨s1, s2, rfl, hst _ (.head _), hst _ (.tail _ (.head _))⟩
    · rintro am H2 ⟨-, -, m1, m2, m3, K2, hS2, rls, layers, hlay, hall, hlen, hrow⟩
      repeat walk_at "s"
      refine q lay layers _ K2 ⟨many, hmany, ?_, hrow⟩ ⟨rls, hlay, hall.mono fun _ _ z => RowsAt.vw (ls' := []) (H' := H2) (fun a o e _ => ⟨e, by simp⟩) z⟩
      rw [hlen]; unfold rangeA; simp
end
/-- data, of a depth -/
noncomputable def Dt (a : AV) (n : Nat) : Prop := ∃ d, dat a = some d ∧ d.canLay0 = true ∧ d.depth ≤ n
theorem Dt.str {x : Str} (h : PyData.strOk x = true) (n : Nat) : Dt (.str x) n := ⟨.str x, rfl, by simp only [PyData.canLay0]; exact h, Nat.zero_le _⟩
theorem Dt.int (x : Int) (n : Nat) : Dt (.int x) n := ⟨.int x, rfl, by simp only [PyData.canLay0], Nat.zero_le _⟩
theorem Dt.bool (x : Bool) (n : Nat) : Dt (.bool x) n := ⟨.bool x, rfl, by simp only [PyData.canLay0], Nat.zero_le _⟩
theorem Dt.none (n : Nat) : Dt .none n := ⟨.none, rfl, by simp only [PyData.canLay0], Nat.zero_le _⟩
theorem dtL : ∀ {l : List AV} {n : Nat}, (∀ a ∈ l, Dt a n) → ∃ ds, datL l = some ds ∧ PyData.canLayAll0 ds = true ∧ PyData.depthAll ds ≤ n
  | [], n, _ => ⟨[], rfl, by simp only [PyData.canLayAll0], Nat.zero_le _⟩
  | a :: l, n, h => by
    obtain ⟨d, h1, h2, h3⟩ := h a (.head _)
    obtain ⟨ds, g1, g2, g3⟩ := dtL (l := l) (n := n) fun b m => h b (.tail _ m)
    refine ⟨d :: ds, datL_cons h1 g1, ?_, ?_⟩
    · simp only [PyData.canLayAll0, h2, g2, Bool.and_self]
    · simp only [PyData.depthAll]; lia
theorem Dt.tup {l : List AV} {n : Nat} (h : ∀ a ∈ l, Dt a n) : Dt (.tup l) (n + 1) := by
  obtain ⟨ds, h1, h2, h3⟩ := dtL h
  refine ⟨.tuple ds, dat_tup h1, ?_, ?_⟩
  · simp only [PyData.canLay0, h2]
  · simp only [PyData.depth]; lia
theorem Dt.mono {a : AV} {n m : Nat} (h : Dt a n) (l : n ≤ m) : Dt a m := let ⟨d, h1, h2, h3⟩ := h; ⟨d, h1, h2, Nat.le_trans h3 l⟩
theorem Dt.shaped {a : AV} {n : Nat} (h : Dt a n) (l : n ≤ 64) : ∃ d, dat a = some d ∧ SeqAt.shaped d = true ∧ PyData.eqv d d = true := by
  obtain ⟨d, h1, h2, h3⟩ := h
  exact ⟨d, h1, by unfold SeqAt.shaped; rw [h2, decide_eq_true (Nat.le_trans h3 l)]; rfl, eqv_self d h2⟩
theorem Dt.law : Dt lawFuncA 4 := by
  refine Dt.tup (n := 3) fun a h => ?_
  simp only [List.mem_cons, List.mem_nil_iff, or_false] at h
  rcases h with rfl | rfl | rfl | rfl
  · exact .str (by decide +kernel) _
  · exact Dt.mono (Dt.tup (n := 0) fun a h => by cases h) (by decide)
  · refine Dt.tup (n := 2) fun a h => ?_
    rw [List.mem_singleton.mp h]
    exact Dt.mono (Dt.tup (n := 0) fun a h => by rw [List.mem_singleton.mp h]; exact .str (by decide +kernel) _) (by decide)
  · exact .bool ..
theorem Dt.steps {st : List AV} (h : StepsOk st) : Dt (.tup st) 2 := Dt.tup (n := 1) fun a m => by
  obtain ⟨i, b, rfl⟩ := h a m
  refine Dt.tup (n := 0) fun a h => ?_
  simp only [List.mem_cons, List.mem_nil_iff, or_false] at h
  rcases h with rfl | rfl
  · exact .int ..
  · exact .bool ..
/-- a member as the law meets it -/
noncomputable def OneOk (a : AV) : Prop := (∃ st ty, a = .tup [.str "field", .tup st, ty] ∧ Dt a 60) ∨ ∃ st m key, a = methAv st m ∧ StepsOk st ∧ st.length ≤ 1000 ∧ m.func = lawFuncA ∧ m.key = .str key ∧ PyData.strOk key = true
theorem OneOk.dt {a : AV} (h : OneOk a) : Dt a 60 := by
  rcases h with ⟨st, ty, _, h⟩ | ⟨st, m, key, rfl, h1, h2, h3, h4, h5⟩
  · exact h
  · unfold methAv
    refine Dt.mono (Dt.tup (n := 4) fun a h => ?_) (by decide)
    simp only [List.mem_cons, List.mem_nil_iff, or_false] at h
    rcases h with rfl | rfl | rfl | rfl | rfl
    · exact .str (by decide +kernel) _
    · exact (Dt.steps h1).mono (by decide)
    · rw [h4]; exact .str h5 _
    · exact .bool ..
    · rw [h3]; exact Dt.law
theorem Dt.entry {st : List AV} {m : Mth} {key : Str} (h1 : StepsOk st) (h3 : m.func = lawFuncA) (h4 : m.key = .str key) (h5 : PyData.strOk key = true) : Dt (.tup [.tup st, m.key, m.func]) 60 := by
  refine Dt.mono (Dt.tup (n := 4) fun a h => ?_) (by decide)
  simp only [List.mem_cons, List.mem_nil_iff, or_false] at h
  rcases h with rfl | rfl | rfl
  · exact (Dt.steps h1).mono (by decide)
  · rw [h4]; exact .str h5 _
  · rw [h3]; exact Dt.law
noncomputable def names8 : List Str := ["f", "g", "h", "M", "A1", "B2", "w", "_"]
noncomputable def namesB : List Str := ["g", "M", "h"]
/-- what the law needs of the layers -/
structure Good (layers : List SRow) (N : Nat) : Prop where
  ways : WaysOk layers ways0
  nodup : (layers.flatten.map (·.1)).Nodup
  few : layers.flatten.length ≤ 1000
  small : ∀ ps ∈ layers.flatten, ps.2.fields.length ≤ 1000
  lv : LvOk (mdl layers) "m.A0" N
  top : ∃ s, mdl layers "m.A0" = some s
  same : ∀ n ∈ names8, (findAt (mdl layers) "m.A0" n N).told = foundSpec n layers ways0
  ones : ∀ n ∈ names8, ∀ a, findAt (mdl layers) "m.A0" n N = .one a → OneOk a
  meths : ∀ i, i < N → ∀ r ∈ (lvl (mdl layers) "m.A0" i).2, ∀ m ∈ (strOf (mdl layers) r.path).mths, m.1 ∈ namesB
  there : ∀ n ∈ names8, ∀ pt, (entryOf pt (findAt (mdl layers) "m.A0" n N).av).isSome = true → n ∈ (namesFrom (mdl layers) N (lvl (mdl layers) "m.A0" 0) []).map (·.1)
/-- msOf as a list of pairs -/
noncomputable def msList (pt : Bool) (F : Str → AV) (l : List Str) : List (Str × AV) := l.filterMap fun n => (entryOf pt (F n)).map fun e => (n, e)
theorem msList_keys {pt : Bool} {F : Str → AV} {l : List Str} : ∀ x ∈ (msList pt F l).map (·.1), x ∈ l := by
  intro x h
  obtain ⟨p, hp, rfl⟩ := List.mem_map.mp h
  obtain ⟨n, hn, e⟩ := List.mem_filterMap.mp hp
  obtain ⟨e', _, rfl⟩ := Option.map_eq_some_iff.mp e
  exact hn
theorem msOf_eq {pt : Bool} {F : Str → AV} {l : List Str} (n : l.Nodup) : msOf pt F l = msList pt F l := by
  have key : ∀ {l : List Str} {D : List (Str × AV)}, l.Nodup → (∀ x ∈ l, x ∉ D.map (·.1)) → l.foldl (msStep pt F) D = D ++ msList pt F l := by
    intro l
    induction l with
    | nil => intro D _ _; simp [msList]
    | cons x l ih =>
      intro D hn hD
      obtain ⟨h1, h2⟩ := List.nodup_cons.mp hn
      rw [List.foldl_cons]
      cases e : entryOf pt (F x) with
      | none =>
        have e1 : msStep pt F D x = D := by unfold msStep; rw [e]
        rw [e1, ih h2 fun y hy => hD y (.tail _ hy)]
        simp only [msList, List.filterMap_cons, e, Option.map_none]
      | some v =>
        have e1 : msStep pt F D x = storeA D x v := by unfold msStep; rw [e]
        rw [e1, store_fresh (hD x (.head _)), ih h2]
        · simp only [msList, List.filterMap_cons, e, Option.map_some, List.append_assoc, List.singleton_append]
        · intro y hy
          rw [List.map_append, List.mem_append]
          rintro (h | h)
          · exact hD y (.tail _ hy) h
          · have : y = x := by simpa using h
            subst this; exact h1 hy
  have := @key l [] n (by simp)
  simpa [msOf] using this
theorem msList_nodup {pt : Bool} {F : Str → AV} {l : List Str} (n : l.Nodup) : ((msList pt F l).map (·.1)).Nodup := by
  induction l with
  | nil => exact List.nodup_nil
  | cons x l ih =>
    obtain ⟨h1, h2⟩ := List.nodup_cons.mp n
    unfold msList at *
    rw [List.filterMap_cons]
    cases e : entryOf pt (F x) with
    | none => simpa using ih h2
    | some v =>
      simp only [Option.map_some, List.map_cons, List.nodup_cons]
      exact ⟨fun m => h1 (msList_keys (pt := pt) (F := F) x m), ih h2⟩
theorem valA_ms {pt : Bool} {F : Str → AV} {l : List Str} {x : Str} {e : AV} (n : l.Nodup) (m : x ∈ l) (h : entryOf pt (F x) = some e) : valA (msList pt F l) x = some e := by
  induction l with
  | nil => cases m
  | cons y l ih =>
    obtain ⟨h1, h2⟩ := List.nodup_cons.mp n
    unfold msList valA at *
    rw [List.filterMap_cons]
    rcases List.mem_cons.mp m with rfl | m
    · rw [h]; simp
    · have hy : ¬ y = x := by rintro rfl; exact h1 m
      cases e' : entryOf pt (F y) with
      | none => simp only [Option.map_none]; exact ih h2 m
      | some v => simp only [Option.map_some, List.find?_cons, hy, decide_false]; exact ih h2 m
theorem names8_nodup : names8.Nodup := by decide +kernel
theorem names8_len : ∀ n ∈ names8, n.length ≤ 1000 := by decide +kernel
theorem namesB_len : ∀ n ∈ namesB, n.length ≤ 1000 := by decide +kernel
theorem namesB_8 : ∀ n ∈ namesB, n ∈ names8 := by decide +kernel
theorem OneOk.member {a : AV} (h : OneOk a) : MemberOk a := by
  rcases h with ⟨st, ty, h, _⟩ | ⟨st, m, key, h, h1, h2, _⟩
  · exact .inr (.inl ⟨st, ty, h⟩)
  · exact .inr (.inr ⟨st, m, h, h1, h2⟩)
theorem Good.member {layers : List SRow} {N : Nat} (G : Good layers N) {n : Str} (h : n ∈ names8) : MemberOk (findAt (mdl layers) "m.A0" n N).av := by
  cases e : findAt (mdl layers) "m.A0" n N with
  | none => exact .inl rfl
  | two => exact .inl rfl
  | one a => exact (G.ones n h a e).member
theorem Good.dt {layers : List SRow} {N : Nat} (G : Good layers N) {n : Str} (h : n ∈ names8) : Dt (findAt (mdl layers) "m.A0" n N).told 60 := by
  cases e : findAt (mdl layers) "m.A0" n N with
  | none => exact .none _
  | two => exact .str (by decide +kernel) _
  | one a => exact (G.ones n h a e).dt
/-- what stands in the dicts is data -/
theorem Good.entry {layers : List SRow} {N : Nat} (G : Good layers N) {n : Str} {pt : Bool} {e : AV} (h : n ∈ names8) (he : entryOf pt (findAt (mdl layers) "m.A0" n N).av = some e) : Dt e 60 := by
  cases e' : findAt (mdl layers) "m.A0" n N with
  | none => rw [e'] at he; cases he
  | two => rw [e'] at he; cases he
  | one a =>
    rw [e'] at he
    rcases G.ones n h a e' with ⟨st, ty, rfl, _⟩ | ⟨st, m, key, rfl, h1, h2, h3, h4, h5⟩
    · cases he
    · have he : entryOf pt (methAv st m) = some e := he
      rw [entryOf_meth] at he
      split at he
      · cases he; exact Dt.entry h1 h3 h4 h5
      · cases he
theorem msOf_le {pt : Bool} {F : Str → AV} (j : Nat) : (msOf pt F (names8.take j)).length ≤ 1000000 := by
  rw [msOf_eq (List.Nodup.sublist (List.take_sublist j names8) names8_nodup)]
  have h1 := List.length_filterMap_le (fun n => (entryOf pt (F n)).map fun e => (n, e)) (names8.take j)
  have h2 : (names8.take j).length ≤ 8 := by rw [List.length_take]; exact Nat.min_le_right _ _
  unfold msList; lia
section
variable {c : Cfg} {k : Nat} {H : AH}
set_option maxRecDepth 100000 in
set_option maxHeartbeats 4000000 in
theorem c_layers_right {ll : Addr} {layers : List SRow} {N : Nat} {Q : AV → AH → Prop} (L : LayersAt H ll layers) (G : Good layers N) (q : ∀ H', Sub H H' → Q (.bool true) H') : Cl c (k + 20) (.ref 308) [.ref ll] H Q := by
  refine Cl_fn ["layers"] (fun P => rfl) (fun P => rfl) (fun vs h => ?_) ?_ ?_ (fun F fs => ?_)
  · obtain ⟨a, rfl⟩ := len1 h; rfl
  · decide
  · decide
  · refine W_execs_cons ?_
    refine W_Assign_Swap ["world", "top"] ?_
    repeat walk_at "s"
    refine c_law_world L G.nodup G.few G.small fun w H₁ S₁ V₁ => ?_
    repeat walk_at "s"
    refine ⟨_, rfl, rfl, ?_⟩
    repeat walk_at "s"
    let J1 : JF := fun as own i am H' => ∃ tl, A6 (as = [named "m.A0", .tup [.str "ptr", named "m.A0"]]) (own = some (tl, .list as)) (H₁ tl = none) (am "world" = some (.ref w)) (am "layers" = some (.ref ll)) (Sub H₁ H')
    refine W_ForH J1 (WI_list ?_)
    with_reducible refine W_hide fun R' hR' => ?_
    repeat walk_at "s"
    refine W_newList fun tl ntl => ?_
    repeat walk_at "s"
    refine hR' _ _ _ ?_
    refine ⟨tl, _, rfl, upd_same .., ⟨tl, rfl, rfl, ntl, rfl, rfl, fun a o e => by rw [del_ne (ne2 ntl e)]; exact upd_old ntl e⟩, ?_, ?_⟩
    · rintro i T am H₂ hT ⟨_, -, -, -, m1, m2, S₂⟩
      intro Q' hQ'
      obtain ⟨t, y, rfl, hTT⟩ : ∃ t y, T = .tup [.str t, y] ∧ (T = named "m.A0" ∨ T = .tup [.str "ptr", named "m.A0"]) := by
        rcases get2 hT with rfl | rfl
        · exact ⟨_, _, rfl, .inl rfl⟩
        · exact ⟨_, _, rfl, .inr rfl⟩
      refine W_aName ?_
      repeat walk_at "s"
      refine W_Dict0 fun du ndu => ?_
      repeat walk_at "s"
      have nduH := S₂.none ndu
      have S3 : Sub H₁ (upd H₂ du (.dict [])) := S₂.add ndu
      have hdu : upd H₂ du (.dict []) du = some (.dict []) := upd_same ..
      generalize upd H₂ du (.dict []) = H₃ at S3 hdu ⊢
      clear ndu S₂ H₂
      let J2 : JF := fun as own j am H' => ∃ nl, A10 (as = names8.map .str) (own = some (nl, .list as)) (H₁ nl = none) (du ≠ nl) (am "world" = some (.ref w)) (am "layers" = some (.ref ll)) (am "T" = some (.tup [.str t, y])) (am "due" = some (.ref du)) (Sub H₁ H') (H' du = some (.dict (msOf (ptOf (.tup [.str t, y])) (fun x => (findAt (mdl layers) "m.A0" x N).av) (names8.take j))))
      refine W_ForH J2 (WI_list ?_)
      with_reducible refine W_hide fun R' hR' => ?_
      repeat walk_at "s"
      refine W_newList fun nl nnl => ?_
      repeat walk_at "s"
      have nnl1 := S3.none nnl
      have ndn : du ≠ nl := ne2 nnl hdu
      refine hR' _ _ _ ?_
      refine ⟨nl, names8.map .str, rfl, upd_same .., ⟨nl, rfl, rfl, nnl1, ndn, m1, m2, rfl, rfl, fun a o e => by rw [del_ne (ne2 nnl1 e)]; exact upd_old nnl (S3 _ _ e), by rw [del_ne ndn]; exact upd_old nnl hdu⟩, ?_, ?_⟩
      · clear nnl m1 m2 hdu S3 H₃
        rintro j nm am H₄ hnm ⟨_, -, -, -, -, m1, m2, m3, m4, S4, hdu⟩
        intro Q' hQ'
        obtain ⟨n, hn, rfl⟩ := Option.map_eq_some_iff.mp (List.getElem?_map .. ▸ hnm)
        have hn8 := List.mem_of_getElem? hn
        have nxt := msOf_next (pt := ptOf (.tup [.str t, y])) (F := fun x => (findAt (mdl layers) "m.A0" x N).av) hn
        refine W_aName ?_
        repeat walk_at "s"
        refine c_law_found (L.sub (S₁.trans S4)) G.ways fun H₅ S5 => ?_
        repeat walk_at "s"
        refine c_law_told ((V₁.sub S4).sub S5) hTT G.lv G.top (names8_len n hn8) fun H₆ S6 => ?_
        have hdu6 := S6 _ _ (S5 _ _ hdu)
        have S16 := (S4.trans S5).trans S6
        rw [← G.same n hn8]
        repeat walk_at "s"
        obtain ⟨dd, hd1, hd2, hd3⟩ := (G.dt hn8).shaped (by decide)
        refine W_ne_dat hd1 hd1 hd2 hd2 ?_
        repeat walk_at "s"
        refine ifF (by rw [hd3]; rfl) ?_
        repeat walk_at "s"
        have skip : entryOf (ptOf (.tup [.str t, y])) (findAt (mdl layers) "m.A0" n N).av = none → H₆ du = some (.dict (msOf (ptOf (.tup [.str t, y])) (fun x => (findAt (mdl layers) "m.A0" x N).av) (names8.take (j + 1)))) := fun h => by
          rw [nxt, hdu6]; unfold msStep; simp only [h]
        have keep : ∀ e, entryOf (ptOf (.tup [.str t, y])) (findAt (mdl layers) "m.A0" n N).av = some e → msOf (ptOf (.tup [.str t, y])) (fun x => (findAt (mdl layers) "m.A0" x N).av) (names8.take (j + 1)) = storeA (msOf (ptOf (.tup [.str t, y])) (fun x => (findAt (mdl layers) "m.A0" x N).av) (names8.take j)) n e := fun e h => by
          rw [nxt]; unfold msStep; simp only [h]
        clear hd1 hd2 hd3 dd nxt
        have hone := G.ones n hn8
        cases ef : findAt (mdl layers) "m.A0" n N with
        | none =>
          rw [ef] at skip
          refine ifF rfl ?_
          refine ifF rfl ?_
          repeat walk_at "s"
          exact ⟨nl, rfl, rfl, nnl1, ndn, m1, m2, m3, m4, S16, skip rfl⟩
        | two =>
          rw [ef] at skip
          rw [show Out.two.told = AV.str "two" from rfl]
          refine ifT rfl ?_
          repeat walk_at "s"
          refine ifF (by decide) ?_
          refine ifF rfl ?_
          repeat walk_at "s"
          exact ⟨nl, rfl, rfl, nnl1, ndn, m1, m2, m3, m4, S16, skip rfl⟩
        | one a =>
          rw [ef] at skip keep
          have hOne := hone a ef
          rw [show (Out.one a).told = a from rfl]
          obtain ⟨da, hd1, hd2, hd3⟩ := (hOne.dt).shaped (by decide)
          have hne : PyData.eqv da (.str "two") = false := by
            rcases hOne with ⟨st, ty, rfl, _⟩ | ⟨st, m, key, rfl, _⟩
            · exact dat_two hd1
            · exact dat_two hd1
          refine ifT (by rcases hOne with ⟨st, ty, rfl, _⟩ | ⟨st, m, key, rfl, _⟩ <;> rfl) ?_
          repeat walk_at "s"
          refine W_ne_dat hd1 (db := .str "two") rfl hd2 (by decide +kernel) ?_
          rw [hne]
          repeat walk_at "s"
          refine ifT rfl ?_
          repeat walk_at "s"
          rcases hOne with ⟨st, ty, rfl, _⟩ | ⟨st, m, key, rfl, h1, h2, h3, h4, h5⟩
          · repeat walk_at "s"
            refine ifF (by decide) ?_
            refine ifF rfl ?_
            repeat walk_at "s"
            exact ⟨nl, rfl, rfl, nnl1, ndn, m1, m2, m3, m4, S16, skip rfl⟩
          · have skip' : (!m.ptr || ptOf (.tup [.str t, y]) || st.any stepPtr) = false → _ := fun z => skip (by show entryOf _ (methAv st m) = none; rw [entryOf_meth, z]; rfl)
            have keep' : (!m.ptr || ptOf (.tup [.str t, y]) || st.any stepPtr) = true → _ := fun z => keep (.tup [.tup st, m.key, m.func]) (by show entryOf _ (methAv st m) = _; rw [entryOf_meth, z]; rfl)
            unfold methAv
            repeat walk_at "s"
            refine ifT (by decide) ?_
            repeat walk_at "s"
            refine ifT rfl ?_
            have hres : ∀ {b : Bool}, b = (!m.ptr || ptOf (.tup [.str t, y]) || st.any stepPtr) → b = (!m.ptr || ptOf (.tup [.str t, y]) || st.any stepPtr) := fun z => z
            refine W_execs_cons (W_If (W.mono (Q := fun b am' H' => b = (!m.ptr || ptOf (.tup [.str t, y]) || st.any stepPtr) ∧ am' "world" = some (.ref w) ∧ am' "layers" = some (.ref ll) ∧ am' "T" = some (.tup [.str t, y]) ∧ am' "due" = some (.ref du) ∧ am' "name" = some (.str n) ∧ am' "found" = some (.tup [.str "method", .tup st, m.key, .bool m.ptr, m.func]) ∧ Sub H₆ H') ?_ ?_))
            · repeat walk_at "s"
              cases hp : m.ptr with
              | false =>
                refine ifT rfl ?_
                exact ⟨rfl, m1, m2, m3, m4, rfl, by rw [← hp]; rfl, Sub.refl _⟩
              | true =>
                refine ifF rfl ?_
                repeat walk_at "s"
                by_cases ht : t = "ptr"
                · refine ifT (decide_eq_true ht) ?_
                  refine ⟨?_, m1, m2, m3, m4, rfl, by rw [← hp]; rfl, Sub.refl _⟩
                  rw [show ptOf (.tup [.str t, y]) = true from decide_eq_true ht]; rfl
                · refine ifF (decide_eq_false ht) ?_
                  repeat walk_at "s"
                  have hpf : ptOf (.tup [.str t, y]) = false := by unfold ptOf; exact decide_eq_false ht
                  let J3 : JL := fun as own D i acc H' => A4 (as = st) (own = none) (Sub H₆ H') (acc = (st.take i).filter stepPtr)
                  refine W_ListComp J3 (WI_tuple ?_)
                  repeat walk_at "s"
                  refine ⟨st, rfl, by lia, fun D nD => ⟨⟨rfl, rfl, Sub.upd nD, rfl⟩, ?_, ?_⟩⟩
                  · rintro i2 a acc C H'' ha hD ⟨-, -, S, hacc⟩
                    obtain ⟨j2, b2, rfl⟩ := h1 a (List.mem_of_getElem? ha)
                    refine W_tests1 ?_
                    repeat walk_at "s"
                    have e : (st.take (i2 + 1)).filter stepPtr = (st.take i2).filter stepPtr ++ (if b2 then [.tup [.int j2, .bool b2]] else []) := by
                      rw [take_next ha, List.filter_append]
                      cases b2 <;> rfl
                    cases b2 with
                    | true =>
                      refine ifT rfl ?_
                      repeat walk_at "s"
                      refine ⟨hD, rfl, rfl, S.over nD, ?_⟩
                      rw [e, hacc]; rfl
                    | false =>
                      refine ifF rfl ?_
                      refine ⟨hD, rfl, rfl, S, ?_⟩
                      rw [e, hacc]; simp
                  · rintro acc H'' hD ⟨-, -, S, hacc⟩
                    show W _ _ _ _ _ _ _ H'' _
                    repeat walk_at "s"
                    refine W_newList fun nb nnb => ?_
                    refine W_ne_nil (upd_old nnb hD) (upd_same ..) ?_
                    repeat walk_at "s"
                    rw [List.take_length] at hacc
                    have e : (!acc.isEmpty) = st.any stepPtr := by
                      rw [hacc, Bool.eq_iff_iff]
                      simp
                    rw [e]
                    cases hany : st.any stepPtr with
                    | true =>
                      refine ifT rfl ?_
                      exact ⟨by rw [hpf]; rfl, m1, m2, m3, m4, rfl, by rw [← hp]; rfl, S.add nnb⟩
                    | false =>
                      refine ifF rfl ?_
                      repeat walk_at "s"
                      exact ⟨by rw [hpf]; rfl, m1, m2, m3, m4, rfl, by rw [← hp]; rfl, S.add nnb⟩
            · clear hres m1 m2 m3 m4
              rintro b am' H₇ ⟨hb, m1, m2, m3, m4, m5, m6, S7⟩
              cases b with
              | false =>
                refine ifF rfl ?_
                repeat walk_at "s"
                exact ⟨nl, rfl, rfl, nnl1, ndn, m1, m2, m3, m4, S16.trans S7, S7 _ _ (skip' hb.symm)⟩
              | true =>
                refine ifT rfl ?_
                repeat walk_at "s"
                refine W_glob (fun _ => rfl) lawFunc_R ?_
                repeat walk_at "s"
                refine W_setItem_dict (S7 _ _ hdu6) (msOf_le _) ?_
                repeat walk_at "s"
                refine ⟨nl, rfl, rfl, nnl1, ndn, m1, m2, m3, m4, (S16.trans S7).over nduH, ?_⟩
                rw [upd_same, keep' hb.symm, h3]
      · clear nnl m1 m2 hdu S3 H₃
        rintro am H₄ ⟨_, -, -, -, -, m1, m2, m3, m4, S4, hdu⟩
        repeat walk_at "s"
        rw [List.length_map, List.take_length] at hdu
        have S5 : Sub H₁ (restore (some (nl, AO.list (names8.map .str))) H₄) := fun a o e => by rw [restore_ne (ne2 nnl1 e)]; exact S4 a o e
        have hdu5 : restore (some (nl, AO.list (names8.map .str))) H₄ du = some (.dict (msOf (ptOf (.tup [.str t, y])) (fun x => (findAt (mdl layers) "m.A0" x N).av) names8)) := by
          rw [restore_ne ndn]; exact hdu
        generalize restore (some (nl, AO.list (names8.map .str))) H₄ = H₅ at S5 hdu5 ⊢
        refine c_method_set (B := namesB) (V₁.sub S5) hTT G.lv G.top (by decide) namesB_len G.meths (fun x hx => G.member (namesB_8 x hx)) fun fd ks H₆ S6 nfd hp hfd => ?_
        repeat walk_at "s"
        have hk : KeysIn namesB (namesFrom (mdl layers) N (lvl (mdl layers) "m.A0" 0) []) := KeysIn.from_ G.meths (Nat.add_zero N) ⟨List.nodup_nil, by simp⟩
        have ksn : ks.Nodup := hp.nodup_iff.mpr hk.1
        have ks8 : ∀ x ∈ ks, x ∈ names8 := fun x hx => namesB_8 x (hk.2 x (hp.mem_iff.mp hx))
        rw [msOf_eq ksn] at hfd
        rw [msOf_eq names8_nodup] at hdu5
        have hdu6 := S6 _ _ hdu5
        have hsubset : ∀ x ∈ (msList (ptOf (.tup [.str t, y])) (fun x => (findAt (mdl layers) "m.A0" x N).av) names8).map (·.1), x ∈ (msList (ptOf (.tup [.str t, y])) (fun x => (findAt (mdl layers) "m.A0" x N).av) ks).map (·.1) := by
          intro x hx
          obtain ⟨p, hp1, rfl⟩ := List.mem_map.mp hx
          obtain ⟨n, hn, e⟩ := List.mem_filterMap.mp hp1
          obtain ⟨e', he, rfl⟩ := Option.map_eq_some_iff.mp e
          refine List.mem_map.mpr ⟨(n, e'), List.mem_filterMap.mpr ⟨n, ?_, by rw [he]; rfl⟩, rfl⟩
          exact hp.mem_iff.mpr (G.there n hn _ (by rw [he]; rfl))
        have hlen : (msList (ptOf (.tup [.str t, y])) (fun x => (findAt (mdl layers) "m.A0" x N).av) ks).length = (msList (ptOf (.tup [.str t, y])) (fun x => (findAt (mdl layers) "m.A0" x N).av) names8).length := by
          have h1 := nodup_le (msList_nodup (pt := ptOf (.tup [.str t, y])) (F := fun x => (findAt (mdl layers) "m.A0" x N).av) names8_nodup) hsubset
          have h2 := nodup_le (msList_nodup (pt := ptOf (.tup [.str t, y])) (F := fun x => (findAt (mdl layers) "m.A0" x N).av) ksn) (B := (msList (ptOf (.tup [.str t, y])) (fun x => (findAt (mdl layers) "m.A0" x N).av) names8).map (·.1)) (by
            intro x hx
            obtain ⟨p, hp1, rfl⟩ := List.mem_map.mp hx
            obtain ⟨n, hn, e⟩ := List.mem_filterMap.mp hp1
            obtain ⟨e', he, rfl⟩ := Option.map_eq_some_iff.mp e
            exact List.mem_map.mpr ⟨(n, e'), List.mem_filterMap.mpr ⟨n, ks8 n hn, by rw [he]; rfl⟩, rfl⟩)
          rw [List.length_map, List.length_map] at h1 h2
          lia
        refine W_ne_dicts hfd hdu6 hlen (fun p hp1 => ?_) ?_
        · obtain ⟨n, hn, e⟩ := List.mem_filterMap.mp hp1
          obtain ⟨e', he, rfl⟩ := Option.map_eq_some_iff.mp e
          obtain ⟨dd, hd1, hd2, hd3⟩ := (G.entry (ks8 n hn) he).shaped (by decide)
          exact ⟨dd, hd1, hd2, e', dd, valA_ms names8_nodup (ks8 n hn) he, hd1, hd2, hd3⟩
        · repeat walk_at "s"
          refine ifF rfl ?_
          repeat walk_at "s"
          exact ⟨tl, rfl, rfl, ntl, m1, m2, S5.trans S6⟩
    · rintro am H₂ ⟨_, -, -, -, m1, m2, S₂⟩
      repeat walk_at "s"
      exact q _ (S₁.trans fun a o e => by rw [restore_ne (ne2 ntl e)]; exact S₂ a o e)
end
mutual
noncomputable def tups : AV → Nat
  | .tup l => tupsL l + 1
  | .at _ => 0
  | .int _ => 0
  | .str _ => 0
noncomputable def tupsL : List AV → Nat
  | [] => 0
  | a :: l => tups a + tupsL l
end
mutual
noncomputable def nodes : AV → Nat
  | .tup l => nodesL l + 1
  | .at _ => 1
  | .int _ => 1
  | .str _ => 1
noncomputable def nodesL : List AV → Nat
  | [] => 0
  | a :: l => nodes a + nodesL l
end
mutual
noncomputable def dep : AV → Nat
  | .tup l => depL l + 1
  | .at _ => 0
  | .int _ => 0
  | .str _ => 0
noncomputable def depL : List AV → Nat
  | [] => 0
  | a :: l => max (dep a) (depL l)
end
mutual
/-- texts, bools and tuples of such -/
noncomputable def okP : AV → Bool
  | .tup l => okPL l
  | .at (.bool _) => true
  | .at _ => false
  | .int _ => false
  | .str _ => true
noncomputable def okPL : List AV → Bool
  | [] => true
  | a :: l => okP a && okPL l
end
noncomputable abbrev Stk := List (AV × Nat)
noncomputable def sav (p : AV × Nat) : AV := .tup [p.1, .int p.2]
noncomputable def stTups (s : Stk) : Nat := tupsL (s.map (·.1))
noncomputable def stNodes (s : Stk) : Nat := nodesL (s.map (·.1))
theorem tupsL_append : ∀ {l l' : List AV}, tupsL (l ++ l') = tupsL l + tupsL l'
  | [], _ => by simp [tupsL]
  | a :: l, l' => by simp only [List.cons_append, tupsL]; rw [tupsL_append]; lia
theorem nodesL_append : ∀ {l l' : List AV}, nodesL (l ++ l') = nodesL l + nodesL l'
  | [], _ => by simp [nodesL]
  | a :: l, l' => by simp only [List.cons_append, nodesL]; rw [nodesL_append]; lia
theorem nodes_pos (a : AV) : 1 ≤ nodes a := by cases a <;> simp [nodes]
theorem nodesL_len : ∀ {l : List AV}, l.length ≤ nodesL l
  | [] => Nat.zero_le _
  | a :: l => by
    have := nodes_pos a
    have := @nodesL_len l
    simp only [nodesL, List.length_cons]; lia
theorem depL_mem : ∀ {l : List AV} {a : AV}, a ∈ l → dep a ≤ depL l
  | b :: l, a, h => by
    simp only [depL]
    rcases List.mem_cons.mp h with rfl | h
    · exact Nat.le_max_left _ _
    · exact Nat.le_trans (depL_mem h) (Nat.le_max_right _ _)
theorem okPL_mem : ∀ {l : List AV} {a : AV}, okPL l = true → a ∈ l → okP a = true
  | b :: l, a, o, h => by
    simp only [okPL, Bool.and_eq_true] at o
    rcases List.mem_cons.mp h with rfl | h
    · exact o.1
    · exact okPL_mem o.2 h
theorem stk_last : ∀ {s : Stk}, s ≠ [] → ∃ i p, s = i ++ [p] := fun {s} h => ⟨s.dropLast, s.getLast h, (List.dropLast_concat_getLast h).symm⟩
theorem int_R {i : Int} {t : Tok} (h : Heap) : VR h (.int i) (.int i t) := by exact ⟨_, rfl⟩
theorem boot_isinstance : bootBuiltins "isinstance" = some (.builtin "isinstance") := by decide +kernel
noncomputable def tooMany : Str := "a type of too many parts, or too deep"
section
variable {c : Cfg} {k : Nat} {H : AH}
set_option maxRecDepth 100000 in
set_option maxHeartbeats 4000000 in
theorem c_few {told spot : AV} {Q : AV → AH → Prop} {X : XQ} (ho : okP told = true) (hd : dep told ≤ 90) (hn : nodes told ≤ 10000)
    (q : ∀ H', Sub H H' → tups told ≤ 2000 → Q .none H') (x : ∀ d H', Sub H H' → 2000 < tups told → H' d = some (.ns (faultNs (.str tooMany) spot)) → X (.ref 64) (some d) H') : CX c (k + 10) (.ref 187) [told, spot] H Q X := by
  refine CX_fnC ["told", "spot"] (fun P => rfl) (fun P => rfl) (fun vs h => ?_) ?_ ?_ (fun F fs hc => ?_)
  · obtain ⟨a, b, rfl⟩ := len2 h; rfl
  · intro n x m
    simp only [List.mem_cons, List.mem_nil_iff, or_false] at m
    rcases m with rfl | rfl
    · exact .inl rfl
    · exact .inl rfl
  · intro n; exact ndB_of rfl
  · have c1 : H (F + 1) = none := hc ("level", F + 1) (.head _)
    clear hc
    generalize hK : cellsH H _ _ = HC
    have hC1 : HC (F + 1) = some (.cell none) := by rw [← hK]; exact upd_same ..
    have SC : Sub H HC := by
      have : cellsH H _ _ = HC := hK
      intro a o e
      rw [← hK]
      exact (upd_ne (ne2 c1 e)).trans e
    clear hK
    refine WX_execs_W ?_
    refine W_Assign_Swap ["left", "many"] ?_
    repeat walk_at "s"
    refine W_newList fun lf nlf => ?_
    repeat walk_at "s"
    refine ⟨_, rfl, rfl, ?_⟩
    have nlfH : H lf = none := SC.none nlf
    have S0 : Sub H (upd HC lf (.list [.tup [told, .int 1]])) := SC.add nlf
    have hlf : upd HC lf (.list [.tup [told, .int 1]]) lf = some (.list ([(told, 1)].map sav)) := upd_same ..
    have hcl : upd HC lf (.list [.tup [told, .int 1]]) (F + 1) = some (.cell none) := upd_old nlf hC1
    generalize upd HC lf (.list [.tup [told, .int 1]]) = H1 at S0 hlf hcl ⊢
    clear hC1 SC nlf HC
    refine ThenX_next ?_
    refine WX_execs_cons ?_
    let J1 : JW := fun n am H' => ∃ (m : Nat) (st : Stk) (oc : Option AV), A11 (n = stNodes st) (am "left" = some (.ref lf)) (am "many" = some (.int m)) (am "spot" = some spot) (Sub H H') (H' lf = some (.list (st.map sav))) (H' (F + 1) = some (.cell oc)) (m + stTups st = tups told) (m ≤ 2000) ((∀ p ∈ st, okP p.1 = true ∧ p.2 + dep p.1 ≤ 100)) (stNodes st ≤ 10000)
    refine WX_While J1 (stNodes [(told, 1)]) ⟨0, [(told, 1)], none, rfl, rfl, rfl, rfl, S0, hlf, hcl, ?_, by lia, ?_, ?_⟩ ?_
    · simp [stTups, tupsL]
    · intro p hp; rw [List.mem_singleton.mp hp]; exact ⟨ho, by show 1 + dep told ≤ 100; lia⟩
    · simp only [stNodes, List.map_cons, List.map_nil, nodesL]; lia
    clear hlf hcl S0 H1
    rintro n am H2 ⟨m, st, oc, rfl, m1, m2, m3, S2, hlf, hcl, htot, hm, hst, hsz⟩
    repeat walk_at "s"
    refine W_newList fun nb nnb => ?_
    have S3 : Sub H (upd H2 nb (.list [])) := S2.add nnb
    have hlf3 := upd_old (o := .list []) nnb hlf
    have hcl3 := upd_old (o := .list []) nnb hcl
    refine W_ne_nil hlf3 (upd_same ..) ?_
    generalize upd H2 nb (.list []) = H3 at S3 hlf3 hcl3 ⊢
    clear S2 hlf hcl nnb nb H2
    repeat walk_at "s"
    have hlen : st.length ≤ 10000 := by
      have := @nodesL_len (st.map (·.1))
      rw [List.length_map] at this
      unfold stNodes at hsz; lia
    by_cases hs : st = []
    · subst hs
      refine ifF rfl ?_
      repeat walk_at "s"
      refine WX_execs_nil ?_
      have ht : tups told ≤ 2000 := by simp only [stTups, List.map_nil, tupsL] at htot; lia
      exact q H3 S3 ht
    · obtain ⟨i, p, rfl⟩ := stk_last hs
      refine ifT (by simp) ?_
      refine WX_execs_W ?_
      refine W_Assign_Tuple ?_
      repeat walk_at "s"
      have hpop : H3 lf = some (.list (i.map sav ++ [sav p])) := by rw [hlf3, List.map_append]; rfl
      rw [List.length_append, List.length_singleton] at hlen
      refine WM_list hpop PySem.F.slot_list_pop (by kernel_rfl) (W_callMeth0 (fa := [.ref lf]) (fun _ => by exact ⟨_, _, rfl, rfl, rfl⟩) (W_pop hpop (by rw [List.length_map]; lia) ?_))
      have nlc : lf ≠ F + 1 := by intro z; rw [z, hcl3] at hlf3; cases hlf3
      unfold sav
      refine W_aTup (W_ino_cons (W_aName (W_ino_cons (W_aNameC (o₀ := oc) (ca := F + 1) ?_ (W_ino_nil ?_)))))
      · rw [upd_ne nlc.symm]; exact hcl3
      have S4 : Sub H (upd (upd H3 lf (.list (i.map sav))) (F + 1) (.cell (some (.int p.2)))) := (S3.over nlfH).over c1
      have hlf4 : upd (upd H3 lf (.list (i.map sav))) (F + 1) (.cell (some (.int p.2))) lf = some (.list (i.map sav)) := by rw [upd_ne nlc, upd_same]
      have hcl4 : upd (upd H3 lf (.list (i.map sav))) (F + 1) (.cell (some (.int p.2))) (F + 1) = some (.cell (some (.int p.2))) := upd_same ..
      have e4 : upd (upd H3 lf (.list (i.map fun p => AV.tup [p.1, .int p.2]))) (F + 1) (.cell (some (.int p.2))) = upd (upd H3 lf (.list (i.map sav))) (F + 1) (.cell (some (.int p.2))) := rfl
      rw [e4]
      generalize upd (upd H3 lf (.list (i.map sav))) (F + 1) (.cell (some (.int p.2))) = H4 at S4 hlf4 hcl4 ⊢
      clear e4 hpop hlf3 hcl3 S3 H3
      obtain ⟨hp1, hp2⟩ := hst p (List.mem_append_right _ (.head _))
      have hst' : ∀ r ∈ i, okP r.1 = true ∧ r.2 + dep r.1 ≤ 100 := fun r hr => hst r (List.mem_append_left _ hr)
      have etot : stTups (i ++ [p]) = stTups i + tups p.1 := by simp [stTups, tupsL_append, tupsL]
      have enod : stNodes (i ++ [p]) = stNodes i + nodes p.1 := by simp [stNodes, nodesL_append, nodesL]
      have hnp := nodes_pos p.1
      refine ThenX_next (WX_execs_cons (WX_If ?_))
      obtain ⟨a, lv⟩ := p
      dsimp only at hp1 hp2 etot enod hcl4 hnp ⊢
      repeat walk_at "s"
      refine S_CallB (id := "isinstance") rfl rfl rfl (by decide) rfl rfl rfl (fun _ => rfl) boot_isinstance (by decide) ?_
      repeat walk_at "s"
      refine W_boot (fun _ => rfl) boot_tuple ?_
      repeat walk_at "s"
      have done0 : tups a = 0 → ∃ m', m' < stNodes (i ++ [(a, lv)]) ∧ ∃ (m : Nat) (st : Stk) (oc : Option AV), m' = stNodes st ∧ True := fun _ => ⟨stNodes i, by lia, m, i, none, rfl, trivial⟩
      clear done0
      cases a with
      | «at» v =>
        cases v with
        | bool b =>
          refine W_isTup_bool ?_
          repeat walk_at "s"
          refine ifF rfl ?_
          refine WX_execs_nil ?_
          refine ThenX_next (WX_execs_nil ?_)
          exact ⟨stNodes i, by lia, m, i, _, rfl, m1, m2, m3, S4, hlf4, hcl4, by simp only [tups] at etot; lia, hm, hst', by lia⟩
        | _ => simp [okP] at hp1
      | int v => simp [okP] at hp1
      | str v =>
        refine W_isTup_str ?_
        repeat walk_at "s"
        refine ifF rfl ?_
        refine WX_execs_nil ?_
        refine ThenX_next (WX_execs_nil ?_)
        exact ⟨stNodes i, by lia, m, i, _, rfl, m1, m2, m3, S4, hlf4, hcl4, by simp only [tups] at etot; lia, hm, hst', by lia⟩
      | tup l =>
        refine W_isTup ?_
        repeat walk_at "s"
        refine ifT rfl ?_
        refine WX_execs_W (W_AugAssign (a := .int m) ?_ ?_)
        · exact m2
        repeat walk_at "s"
        refine W_iadd_int ?_
        refine ThenX_next (WX_execs_cons (WX_If ?_))
        repeat walk_at "s"
        refine W_glob (v := .int 2000 442) (a := .int 2000) (fun _ => rfl) (fun h _ _ => int_R h) ?_
        repeat walk_at "s"
        simp only [tups, nodes, dep] at etot enod hp2
        by_cases hmm : 2000 < m + 1
        · refine ifT (decide_eq_true (by lia)) ?_
          refine WX_execs_cons (WX_Raise excCls_Type ?_)
          refine S_CallDef rfl rfl (by decide) rfl rfl rfl (fun _ => rfl) (fun _ => rfl) ?_
          repeat walk_at "s"
          refine c_TypeFault fun x' d hx' hd' ndx => ?_
          refine ⟨x', some d, rfl, by rw [upd_ne ndx.symm, upd_same], hx', x _ _ ?_ (by lia) ?_⟩
          · intro a o e
            have e' := S4 a o e
            rw [drop_ne (ne2 hx' e'), upd_ne (ne2 hd' e'), upd_ne (ne2 hx' e')]; exact e'
          · rw [drop_ne ndx, upd_same]; rfl
        · refine ifF (decide_eq_false (by lia)) ?_
          repeat walk_at "s"
          refine W_cell hcl4 ?_
          refine W_glob (v := .int 100 444) (a := .int 100) (fun _ => rfl) (fun h _ _ => int_R h) ?_
          repeat walk_at "s"
          refine ifF (decide_eq_false (by lia)) ?_
          repeat walk_at "s"
          refine ifF rfl ?_
          refine WX_execs_nil ?_
          refine ThenX_next ?_
          refine WX_execs_W ?_
          repeat walk_at "s"
          refine WM_listM hlf4 PySem.F.slot_list_extend (by kernel_rfl) ?_
          repeat walk_at "s"
          have hll : l.length ≤ 10000 := by
            have := @nodesL_len l
            lia
          let J2 : JL := fun as own D j acc H'' => A5 (as = l) (own = none) (Sub H4 H'') (H4 D = none) (acc = (l.take j).map fun a => sav (a, lv + 1))
          refine W_ListComp J2 (WI_tuple ?_)
          repeat walk_at "s"
          refine ⟨l, rfl, by lia, fun D nD => ⟨⟨rfl, rfl, Sub.upd nD, nD, rfl⟩, ?_, ?_⟩⟩
          · rintro j it acc C H'' hj hD ⟨-, -, S, nD, hacc⟩
            refine W_tests0 ?_
            refine ifT rfl ?_
            repeat walk_at "s"
            refine W_cell (S _ _ hcl4) ?_
            repeat walk_at "s"
            refine ⟨hD, rfl, rfl, S.over nD, nD, ?_⟩
            rw [take_next hj, List.map_append, ← hacc]
            rfl
          rintro acc H'' hD ⟨-, -, S, nD, hacc⟩
          rw [List.take_length] at hacc
          rw [hacc] at hD
          show W _ _ _ _ _ _ _ H'' _
          repeat walk_at "s"
          have hlf5 := S _ _ hlf4
          refine W_extend hlf5 hD (by rw [List.length_map, List.length_map]; lia) ?_
          repeat walk_at "s"
          have eln : stNodes (i ++ l.map fun a => (a, lv + 1)) = stNodes i + nodesL l := by
            unfold stNodes
            rw [List.map_append, nodesL_append, List.map_map]
            congr 1
            have : (l.map ((fun x => x.1) ∘ fun a => (a, lv + 1))) = l := by
              conv => rhs; rw [← List.map_id l]
              rfl
            rw [this]
          have elt : stTups (i ++ l.map fun a => (a, lv + 1)) = stTups i + tupsL l := by
            unfold stTups
            rw [List.map_append, tupsL_append, List.map_map]
            congr 1
            have : (l.map ((fun x => x.1) ∘ fun a => (a, lv + 1))) = l := by
              conv => rhs; rw [← List.map_id l]
              rfl
            rw [this]
          refine WX_execs_nil ?_
          refine ThenX_next (WX_execs_nil ?_)
          refine ⟨stNodes (i ++ l.map fun a => (a, lv + 1)), by lia, m + 1, i ++ l.map fun a => (a, lv + 1), some (.int lv), rfl, m1, rfl, m3, (S4.trans S).over nlfH, ?_, ?_, by lia, by lia, ?_, by lia⟩
          · rw [upd_same, List.map_append, List.map_map]; rfl
          · rw [upd_ne nlc.symm]; exact S _ _ hcl4
          · intro r hr
            rcases List.mem_append.mp hr with hr | hr
            · exact hst' r hr
            · obtain ⟨a, ha, rfl⟩ := List.mem_map.mp hr
              refine ⟨okPL_mem (by simpa [okP] using hp1) ha, ?_⟩
              have := depL_mem ha
              show lv + 1 + dep a ≤ 100
              lia
end
noncomputable abbrev structA : AV := .tup [.str "struct", .tup []]
noncomputable abbrev partsA (n : Nat) : AV := .tup [.str "func", .tup (List.replicate n structA), .tup [], .bool false]
theorem tups_rep : ∀ n, tupsL (List.replicate n structA) = 2 * n
  | 0 => by simp [tupsL]
  | n + 1 => by rw [List.replicate_succ, tupsL, tups_rep n]; simp [tups, tupsL]; lia
theorem nodes_rep : ∀ n, nodesL (List.replicate n structA) = 3 * n
  | 0 => by simp [nodesL]
  | n + 1 => by rw [List.replicate_succ, nodesL, nodes_rep n]; simp [nodes, nodesL]; lia
theorem dep_rep : ∀ n, depL (List.replicate n structA) ≤ 2
  | 0 => by simp [depL]
  | n + 1 => by
    rw [List.replicate_succ, depL]
    have := dep_rep n
    have e : dep structA = 2 := by simp [dep, depL]
    lia
theorem ok_rep : ∀ n, okPL (List.replicate n structA) = true
  | 0 => by simp [okPL]
  | n + 1 => by rw [List.replicate_succ, okPL, ok_rep n]; simp [okP, okPL]
section
variable {c : Cfg} {k : Nat} {H : AH}
set_option maxRecDepth 100000 in
set_option maxHeartbeats 1000000 in
theorem c_told_few {told : AV} {Q : AV → AH → Prop} (ho : okP told = true) (hd : dep told ≤ 90) (hn : nodes told ≤ 10000) (q : ∀ H', Sub H H' → Q (if tups told ≤ 2000 then .none else .int 7) H') : Cl c (k + 11) (.ref 320) [told] H Q := by
  refine Cl_fn ["told"] (fun P => rfl) (fun P => rfl) (fun vs h => ?_) ?_ ?_ (fun L fs => ?_)
  · obtain ⟨a, rfl⟩ := len1 h; rfl
  · decide
  · decide
  · refine W_execs_cons (W_TryAs (C := 64) (x := "TypeFault") (n := "fault") (attr := "spot") (fun _ => rfl) excCls_Type (fun _ => by rfl) ?_)
    refine WX_execs_cons (WX_Expr (WX_CallDef (fun _ => rfl) (fun _ => rfl) ?_))
    repeat walk_at "s"
    refine c_few ho hd hn (fun H' S' e => ?_) (fun d H' S' e hns => ?_)
    · repeat walk_at "s"
      refine WX_execs_W ?_
      repeat walk_at "s"
      have := q H' S'
      rw [if_pos e] at this
      exact this
    · refine ⟨rfl, d, _, .int 7, rfl, hns, rfl, rfl, fun am' => ?_⟩
      have := q H' S'
      rw [if_neg (by lia)] at this
      exact this
set_option maxRecDepth 100000 in
set_option maxHeartbeats 1000000 in
theorem c_parts_right {Q : AV → AH → Prop} (q : ∀ H', Sub H H' → Q (.bool true) H') : Cl c (k + 12) (.ref 325) [] H Q := by
  refine Cl_fn [] (fun P => rfl) (fun P => rfl) (fun vs h => ?_) ?_ ?_ (fun L fs => ?_)
  · obtain rfl := List.eq_nil_of_length_eq_zero h; rfl
  · decide
  · decide
  · refine W_execs_cons ?_
    let J1 : JL := fun as own D j acc H'' => ∃ nl, A7 (as = [.int 998, .int 999]) (own = some (nl, .list as)) (H nl = none) (D ≠ nl) (H D = none) (Sub H H'') (acc = ([AV.none, .int 7].take j))
    refine W_Assign_ListComp J1 (WI_list ?_)
    with_reducible refine W_hide fun R' hR' => ?_
    repeat walk_at "s"
    refine W_newList fun nl nnl => ?_
    refine hR' _ _ _ ?_
    refine ⟨nl, _, rfl, upd_same .., by decide, fun D nD => ?_⟩
    have hD1 : D ≠ nl := by rintro rfl; rw [del_same] at nD; cases nD
    have hD2 : H D = none := by rw [del_ne hD1, upd_ne hD1] at nD; exact nD
    refine ⟨⟨nl, rfl, rfl, nnl, hD1, hD2, fun a o e => ?_, rfl⟩, ?_, ?_⟩
    · rw [upd_ne (ne2 hD2 e), del_ne (ne2 nnl e), upd_ne (ne2 nnl e)]; exact e
    · rintro j a acc C H'' hj hD ⟨-, -, -, -, -, -, S, hacc⟩
      obtain ⟨n, rfl, hn, hnb, hj2⟩ : ∃ n : Nat, a = .int n ∧ 2 ≤ n ∧ n ≤ 1000 ∧ ([AV.none, .int 7].take (j + 1)) = [AV.none, .int 7].take j ++ [if 2 * n + 3 ≤ 2000 then AV.none else .int 7] := by
        match j, hj with
        | 0, hj => cases hj; exact ⟨998, rfl, by decide, by decide, rfl⟩
        | 1, hj => cases hj; exact ⟨999, rfl, by decide, by decide, rfl⟩
      refine W_tests0 ?_
      refine ifT rfl ?_
      repeat walk_at "s"
      refine W_mul_tup hn (by lia) ?_
      repeat walk_at "s"
      refine c_told_few (told := partsA n) ?_ ?_ ?_ fun H3 S3 => ?_
      · simp [okP, okPL, ok_rep]
      · have := dep_rep n
        simp only [dep, depL]; lia
      · have := nodes_rep n
        simp only [nodes, nodesL]; lia
      repeat walk_at "s"
      have et : tups (partsA n) = 2 * n + 3 := by
        simp only [tups, tupsL, tups_rep]; lia
      refine ⟨S3 _ _ hD, nl, rfl, rfl, nnl, hD1, hD2, (S.trans S3).over hD2, ?_⟩
      rw [hacc, hj2, et]
    · rintro acc H'' hD ⟨-, -, -, -, -, -, S, hacc⟩
      have hacc : acc = [AV.none, .int 7] := hacc
      have S5 : Sub H (restore (some (nl, AO.list [.int 998, .int 999])) H'') := fun a o e => by rw [restore_ne (ne2 nnl e)]; exact S a o e
      have hD5 : restore (some (nl, AO.list [.int 998, .int 999])) H'' D = some (.list [.none, .int 7]) := by rw [restore_ne hD1, hD, hacc]
      have eR : restore (some (nl, AO.list [AV.int 998, AV.int 999])) H'' = restore (some (nl, AO.list [.int 998, .int 999])) H'' := rfl
      generalize restore (some (nl, AO.list [AV.int 998, AV.int 999])) H'' = H5 at S5 hD5 ⊢
      repeat walk_at "s"
      refine W_newList fun nb nnb => ?_
      repeat walk_at "s"
      refine W_eq_lists (upd_old nnb hD5) (upd_same ..) (da := [.none, .int 7]) (db := [.none, .int 7]) rfl rfl (by decide +kernel) (by decide +kernel) ?_
      repeat walk_at "s"
      have : PyData.eqvAll [.none, .int 7] [.none, .int 7] = true := by simp [PyData.eqvAll, PyData.eqv]
      rw [this]
      exact q _ (S5.add nnb)
end
noncomputable def deepF (d : Nat) : List Fld := if d < 25 then [embF d ("A", false), embF d ("B", false)] else [plainF "f"]
noncomputable def deepM (d : Nat) : List (Str × Mth) := if d = 25 then [("M", ⟨false, lawFuncA, .str "m.A25.M"⟩)] else []
noncomputable def deepRow (d : Nat) : SRow := [(pthS "A" d, ⟨deepF d, deepM d⟩), (pthS "B" d, ⟨deepF d, []⟩)]
noncomputable def deepLayers : List SRow := (List.range 26).map deepRow
/-- what the law needs of the deep layers -/
structure DeepOk : Prop where
  nodup : (deepLayers.flatten.map (·.1)).Nodup
  size : deepLayers.flatten.length ≤ 1000 ∧ ∀ ps ∈ deepLayers.flatten, ps.2.fields.length ≤ 1000
  lv : LvOk (mdl deepLayers) "m.A0" 26
  top : ∃ s, mdl deepLayers "m.A0" = some s
  w : findAt (mdl deepLayers) "m.A0" "w" 26 = .none
  f : findAt (mdl deepLayers) "m.A0" "f" 26 = .two
  m : findAt (mdl deepLayers) "m.A0" "M" 26 = .two
  meths : ∀ i, i < 26 → ∀ r ∈ (lvl (mdl deepLayers) "m.A0" i).2, ∀ m ∈ (strOf (mdl deepLayers) r.path).mths, m.1 ∈ ([Str.ofString "M"] : List Str)
theorem All2.ofGet {α β : Type} {R : α → β → Prop} : ∀ {l : List α} {r : List β}, l.length = r.length → (∀ (i : Nat) (a : α) (b : β), l[i]? = some a → r[i]? = some b → R a b) → All2 R l r
  | [], [], _, _ => .nil
  | [], _ :: _, h, _ => by cases h
  | _ :: _, [], h, _ => by cases h
  | a :: l, b :: r, h, k => .cons (k 0 a b rfl rfl) (All2.ofGet (by simpa using h) fun i x y h1 h2 => k (i + 1) x y (by simpa using h1) (by simpa using h2))
theorem ds_le2 : ∀ n, n < 30 → (ds n).length ≤ 10 := by decide +kernel
/-- the objects of a row: the list, and of each struct the fields and the methods -/
structure R5 where
  rl : Addr
  f0 : Addr
  m0 : Addr
  f1 : Addr
  m1 : Addr
noncomputable abbrev dItem (L : Str) (d : Nat) (f m : Addr) : AV := .tup [.str (pthS L d), .ref f, .ref m]
structure R5At (H : AH) (d : Nat) (r : R5) : Prop where
  rl : H r.rl = some (.list [dItem "A" d r.f0 r.m0, dItem "B" d r.f1 r.m1])
  f0 : H r.f0 = some (.list ((deepF d).map Fld.av))
  m0 : H r.m0 = some (.dict [])
  f1 : H r.f1 = some (.list ((deepF d).map Fld.av))
  m1 : H r.m1 = some (.dict [])
theorem R5At.to {H H' : AH} {d : Nat} {r : R5} (k : ∀ a o, a ∈ [r.rl, r.f0, r.m0, r.f1, r.m1] → H a = some o → H' a = some o) (x : R5At H d r) : R5At H' d r :=
  ⟨k _ _ (by simp) x.rl, k _ _ (by simp) x.f0, k _ _ (by simp) x.m0, k _ _ (by simp) x.f1, k _ _ (by simp) x.m1⟩
noncomputable def R5.ad (r : R5) : List Addr := [r.rl, r.f0, r.m0, r.f1, r.m1]
theorem WorldAt.cell {H : AH} {w : Addr} {M : Mdl} {ca : Addr} {o : Option AV} {o' : AO} : WorldAt H w M → H ca = some (.cell o) → WorldAt (upd H ca o') w M := fun ⟨dx, nd, l, F, e1, e2, e3, e6, e4, e5⟩ e => by
  have k : ∀ {a x}, H a = some x → (∀ l, x ≠ .cell l) → upd H ca o' a = some x := fun {a x} z n => by
    rw [upd_ne]; exact z
    rintro rfl; rw [e] at z; cases z; exact n _ rfl
  refine ⟨dx, nd, l, F, k e1 (by simp), k e2 (by simp), e3, e6, k e4 (by simp), fun p s z => ?_⟩
  obtain ⟨r, q, dx', md, a, b, f1, f2, f3⟩ := e5 p s z
  exact ⟨r, q, dx', md, a, b, k f1 (by simp), k f2 (by simp), k f3 (by simp)⟩
section
variable {c : Cfg} {k : Nat} {H : AH}
set_option maxRecDepth 100000 in
set_option maxHeartbeats 4000000 in
theorem c_deep_right {Q : AV → AH → Prop} (D₀ : DeepOk) (q : ∀ H', Sub H H' → Q (.bool true) H') : Cl c (k + 20) (.ref 313) [] H Q := by
  refine Cl_fnC [] (fun P => rfl) (fun P => rfl) (fun vs h => ?_) ?_ ?_ (fun F fs hc => ?_)
  · obtain rfl := List.eq_nil_of_length_eq_zero h; rfl
  · intro n x m; cases m
  · intro n; exact ndB_of rfl
  · have c3 : H (F + 1 + 1 + 1) = none := hc ("top", F + 1 + 1 + 1) (.head _)
    have c2 : H (F + 1 + 1) = none := hc ("world", F + 1 + 1) (.tail _ (.head _))
    have c1 : H (F + 1) = none := hc ("depth", F + 1) (.tail _ (.tail _ (.head _)))
    clear hc
    have n12 : F + 1 ≠ F + 1 + 1 := by lia
    have n13 : F + 1 ≠ F + 1 + 1 + 1 := by lia
    have n23 : F + 1 + 1 ≠ F + 1 + 1 + 1 := by lia
    generalize hK : cellsH H _ _ = HC
    have hc1 : HC (F + 1) = some (.cell none) := by rw [← hK]; exact (upd_ne n13).trans ((upd_ne n12).trans (upd_same ..))
    have hc2 : HC (F + 1 + 1) = some (.cell none) := by rw [← hK]; exact (upd_ne n23).trans (upd_same ..)
    have hc3 : HC (F + 1 + 1 + 1) = some (.cell none) := by rw [← hK]; exact upd_same ..
    have SC : Sub H HC := by
      have : cellsH H _ _ = HC := hK
      intro a o e
      rw [← hK]
      exact (upd_ne (ne2 c3 e)).trans ((upd_ne (ne2 c2 e)).trans ((upd_ne (ne2 c1 e)).trans e))
    clear hK
    refine W_execs_cons ?_
    repeat walk_at "s"
    refine W_newList fun lay nlay => ?_
    repeat walk_at "s"
    have S0 : Sub H (upd HC lay (.list [])) := SC.add nlay
    have nlayH := SC.none nlay
    have hlay : upd HC lay (.list []) lay = some (.list []) := upd_same ..
    replace hc1 := upd_old (o := .list []) nlay hc1
    replace hc2 := upd_old (o := .list []) nlay hc2
    replace hc3 := upd_old (o := .list []) nlay hc3
    have nl1 : lay ≠ F + 1 := by rintro rfl; rw [hlay] at hc1; cases hc1
    generalize upd HC lay (.list []) = H1 at S0 hlay hc1 hc2 hc3 ⊢
    clear nlay SC HC
    let J1 : JF := fun as own d am H' => A8 (as = rangeA 26) (own = none) (am "layers" = some (.ref lay)) (Sub H H') ((∃ oc, H' (F + 1) = some (.cell oc))) (H' (F + 1 + 1) = some (.cell none)) (H' (F + 1 + 1 + 1) = some (.cell none)) (∃ rs : List R5, A4 (H' lay = some (.list (rs.map fun r => .ref r.rl))) (rs.length = d) ((∀ (i : Nat) (r : R5), rs[i]? = some r → R5At H' i r ∧ lay ∉ r.ad ∧ F + 1 ∉ r.ad ∧ H r.m0 = none)) (∀ (i j : Nat) (r s : R5), rs[i]? = some r → rs[j]? = some s → (r.m0 = s.m0 → i = j) ∧ r.m1 ≠ s.m0))
    refine W_ForH J1 (WI_range ?_)
    repeat walk_at "s"
    refine ⟨26, rfl, by decide, ⟨rfl, rfl, rfl, S0, ⟨_, hc1⟩, hc2, hc3, [], hlay, rfl, fun i r e => by simp at e, fun i j r s e => by simp at e⟩, ?_, ?_⟩
    · clear hlay hc1 hc2 hc3 S0 H1
      rintro d a am H2 ha ⟨-, -, m1, S2, ⟨oc, hc1⟩, hc2, hc3, rs, hlay, hlen, hrs, hdist⟩
      intro Q' hQ'
      have hd : d < 26 := by have := (List.getElem?_eq_some_iff.mp ha).1; unfold rangeA at this; simpa using this
      have ea : a = .int (d : Int) := by
        unfold rangeA at ha
        rw [List.getElem?_map, List.getElem?_range hd] at ha
        exact (Option.some.inj ha).symm
      subst ea
      have hd10 := ds_le2 d (by lia)
      have hd11 := ds_le2 (d + 1) (by lia)
      refine W_aNameC (ca := F + 1) hc1 ?_
      have SX : Sub H (upd H2 (F + 1) (.cell (some (.int d)))) := S2.over c1
      have hx1 : upd H2 (F + 1) (.cell (some (.int d))) (F + 1) = some (.cell (some (.int d))) := upd_same ..
      have hx2 : upd H2 (F + 1) (.cell (some (.int d))) (F + 1 + 1) = some (.cell none) := by rw [upd_ne n12.symm]; exact hc2
      have hx3 : upd H2 (F + 1) (.cell (some (.int d))) (F + 1 + 1 + 1) = some (.cell none) := by rw [upd_ne n13.symm]; exact hc3
      have hxl : upd H2 (F + 1) (.cell (some (.int d))) lay = some (.list (rs.map fun r => .ref r.rl)) := by rw [upd_ne nl1]; exact hlay
      have hrs2 : ∀ (i : Nat) (r : R5), rs[i]? = some r → R5At (upd H2 (F + 1) (.cell (some (.int d)))) i r ∧ lay ∉ r.ad ∧ F + 1 ∉ r.ad ∧ H r.m0 = none := fun i r e => by
        obtain ⟨h1, h2, h3⟩ := hrs i r e
        refine ⟨h1.to fun a o m e => ?_, h2, h3⟩
        rw [upd_ne]; exact e
        rintro rfl; exact h3.1 m
      generalize upd H2 (F + 1) (.cell (some (.int d))) = X at SX hx1 hx2 hx3 hxl hrs2 ⊢
      clear hrs hlay hc1 hc2 hc3 S2 oc H2
      repeat walk_at "s"
      refine W_newList fun rw nrw => ?_
      repeat walk_at "s"
      have hrw : upd X rw (.list []) rw = some (.list []) := upd_same ..
      have S3 : Sub X (upd X rw (.list [])) := Sub.upd nrw
      generalize upd X rw (.list []) = H3 at hrw S3 ⊢
      let J2 : JF := fun as own j am H' => A6 (as = chars "AB") (own = none) (am "layers" = some (.ref lay)) (am "row" = some (.ref rw)) (Sub X H') (∃ l : List (Addr × Addr), A4 (l.length = j) (H' rw = some (.list (List.zipWith (fun L p => dItem L d p.1 p.2) (letters "AB") l))) ((∀ p ∈ l, X p.1 = none ∧ X p.2 = none ∧ p.1 ≠ rw ∧ p.2 ≠ rw ∧ H' p.1 = some (.list ((deepF d).map Fld.av)) ∧ H' p.2 = some (.dict []))) ((l.map (·.2)).Nodup))
      refine W_ForH J2 (WI_str ?_)
      repeat walk_at "s"
      refine ⟨_, rfl, ⟨rfl, rfl, m1, rfl, S3, [], rfl, hrw, by simp, List.nodup_nil⟩, ?_, ?_⟩
      · clear hrw S3 H3 m1
        rintro j a am H4 hj ⟨-, -, m1, m2, S4, l, hll, hrw4, hl, hlnd⟩
        intro Q' hQ'
        rw [chars_letters] at hj
        obtain ⟨L, hL, rfl⟩ := Option.map_eq_some_iff.mp (List.getElem?_map .. ▸ hj)
        have hLl := letters_AB L (List.mem_of_getElem? hL)
        refine W_aName ?_
        let J3 : JC := fun am H' => A4 (am "layers" = some (.ref lay)) (am "row" = some (.ref rw)) (am "letter" = some (.str L)) (∃ fl, A4 (am "fields" = some (.ref fl)) (Sub H4 H') (H4 fl = none) ((d < 25 → H' fl = some (.list ((deepF d).map Fld.av)))))
        refine W_cut J3 ?_ ?_
        · let J4 : JL := fun as own D j acc H'' => A5 (as = chars "AB") (own = none) (Sub H4 H'') (H4 D = none) (acc = ((letters "AB").take j).map fun l => (embF d (l, false)).av)
          refine W_Assign_ListComp J4 (WI_str ?_)
          repeat walk_at "s"
          refine ⟨_, rfl, by decide, fun D nD => ⟨⟨rfl, rfl, Sub.upd nD, nD, rfl⟩, ?_, ?_⟩⟩
          · rintro j2 it acc C H'' hj2 hD ⟨-, -, S, nD, hacc⟩
            rw [chars_letters] at hj2
            obtain ⟨L2, hL2, rfl⟩ := Option.map_eq_some_iff.mp (List.getElem?_map .. ▸ hj2)
            have hLl2 := letters_AB L2 (List.mem_of_getElem? hL2)
            have hcell := S _ _ (S4 _ _ hx1)
            refine W_tests0 ?_
            refine ifT rfl ?_
            repeat walk_at "s"
            refine S_CallT (T := "str") rfl rfl rfl (by decide) rfl rfl rfl (fun _ => rfl) boot_str (by decide) ?_
            repeat walk_at "s"
            refine W_cell hcell ?_
            repeat walk_at "s"
            refine W_str_int (x := ((d + 1 : Nat) : Int)) (log2_small (by lia)) ?_
            refine W_add_str ?_ (by show _ + (ds (d + 1)).length ≤ _; lia)
            repeat walk_at "s"
            refine W_add_str ?_ (by have : ("m." : Str).length = 2 := by decide
                                    lia)
            repeat walk_at "s"
            refine S_CallT (T := "str") rfl rfl rfl (by decide) rfl rfl rfl (fun _ => rfl) boot_str (by decide) ?_
            repeat walk_at "s"
            refine W_cell hcell ?_
            repeat walk_at "s"
            refine W_str_int (x := ((d + 1 : Nat) : Int)) (log2_small (by lia)) ?_
            have hp : (("m." : Str) ++ L2).length + (ds (d + 1)).length ≤ 100000 := by
              rw [strLen_append, show ("m." : Str).length = 2 from by decide]; lia
            refine W_add_str ?_ hp
            repeat walk_at "s"
            refine ⟨hD, rfl, rfl, S.over nD, nD, ?_⟩
            rw [take_next hL2, List.map_append, ← hacc]
            rfl
          · rintro acc H'' hD ⟨-, -, S, nD, hacc⟩
            refine ⟨rfl, m1, m2, rfl, D, rfl, S, nD, fun hlt => ?_⟩
            show H'' D = _
            rw [hD, hacc]
            unfold deepF
            rw [if_pos hlt]
            rfl
        clear m1 m2
        rintro am H5 ⟨m1, m2, m3, fl, m4, S5, nfl, hfl5⟩
        repeat walk_at "s"
        refine W_newList fun la nla => ?_
        repeat walk_at "s"
        have S6 : Sub H4 (upd H5 la (.list [.tup [.str "f", .tup [.str "int", .str "int"], .bool false]])) := S5.add nla
        have hla : upd H5 la (.list [.tup [.str "f", .tup [.str "int", .str "int"], .bool false]]) la = some (.list ([plainF "f"].map Fld.av)) := upd_same ..
        have hfl6 : d < 25 → upd H5 la (.list [.tup [.str "f", .tup [.str "int", .str "int"], .bool false]]) fl = some (.list ((deepF d).map Fld.av)) := fun h => upd_old nla (hfl5 h)
        have nla4 := S5.none nla
        generalize upd H5 la (.list [.tup [.str "f", .tup [.str "int", .str "int"], .bool false]]) = H6 at S6 hla hfl6 ⊢
        clear S5 hfl5 nla H5
        have hrw6 := S6 _ _ hrw4
        have hcell := S6 _ _ (S4 _ _ hx1)
        have hj2 : j < 2 := (List.getElem?_eq_some_iff.mp hL).1
        have hzl : (List.zipWith (fun L p => dItem L d p.1 p.2) (letters "AB") l).length ≤ 2 := by
          rw [List.length_zipWith]; exact Nat.le_trans (Nat.min_le_left _ _) (by decide)
        refine WM_listM hrw6 slot_list_append (by kernel_rfl) ?_
        repeat walk_at "s"
        refine W_add_str ?_ (by have : ("m." : Str).length = 2 := by decide
                                lia)
        repeat walk_at "s"
        refine S_CallT (T := "str") rfl rfl rfl (by decide) rfl rfl rfl (fun _ => rfl) boot_str (by decide) ?_
        repeat walk_at "s"
        refine W_cell hcell ?_
        repeat walk_at "s"
        refine W_str_int (x := ((d : Nat) : Int)) (log2_small (by lia)) ?_
        have hp : (("m." : Str) ++ L).length + (ds d).length ≤ 100000 := by
          rw [strLen_append, show ("m." : Str).length = 2 from by decide]; lia
        refine W_add_str ?_ hp
        repeat walk_at "s"
        refine W_cell hcell ?_
        repeat walk_at "s"
        have fin : ∀ {fx : Addr}, H4 fx = none → H6 fx = some (.list ((deepF d).map Fld.av)) → ∀ {md : Addr}, H6 md = none → (∃ l' : List (Addr × Addr), A4 (l'.length = j + 1) (upd (upd H6 md (.dict [])) rw (.list (List.zipWith (fun L p => dItem L d p.1 p.2) (letters "AB") l ++ [dItem L d fx md])) rw = some (.list (List.zipWith (fun L p => dItem L d p.1 p.2) (letters "AB") l')))
            (∀ p ∈ l', X p.1 = none ∧ X p.2 = none ∧ p.1 ≠ rw ∧ p.2 ≠ rw ∧ upd (upd H6 md (.dict [])) rw (.list (List.zipWith (fun L p => dItem L d p.1 p.2) (letters "AB") l ++ [dItem L d fx md])) p.1 = some (.list ((deepF d).map Fld.av)) ∧ upd (upd H6 md (.dict [])) rw (.list (List.zipWith (fun L p => dItem L d p.1 p.2) (letters "AB") l ++ [dItem L d fx md])) p.2 = some (.dict [])) ((l'.map (·.2)).Nodup)) := by
          intro fx nfx hfx md nmd
          refine ⟨l ++ [(fx, md)], by rw [List.length_append, hll]; rfl, ?_, ?_, ?_⟩
          · rw [upd_same]
            congr 2
            match l, hll, hj2, hL with
            | [], h0, _, hL => subst h0; cases hL; rfl
            | [p], h0, _, hL => subst h0; cases hL; rfl
            | p :: q :: l, h0, h2, _ => simp at h0; lia
          · intro p hp
            rcases List.mem_append.mp hp with hp | hp
            · obtain ⟨x1, x2, x3, x4, x5, x6⟩ := hl p hp
              exact ⟨x1, x2, x3, x4, by rw [upd_ne x3]; exact upd_old nmd (S6 _ _ x5), by rw [upd_ne x4]; exact upd_old nmd (S6 _ _ x6)⟩
            · rw [List.mem_singleton.mp hp]
              have e1 : fx ≠ rw := ne1 nfx hrw4
              have e2 : md ≠ rw := ne1 nmd hrw6
              exact ⟨S4.none nfx, S4.none (S6.none nmd), e1, e2, by rw [upd_ne e1]; exact upd_old nmd hfx, by rw [upd_ne e2, upd_same]⟩
          · rw [List.map_append, List.nodup_append]
            refine ⟨hlnd, by simp, ?_⟩
            rintro y hy z hz rfl
            obtain ⟨p, hp, rfl⟩ := List.mem_map.mp hy
            have : p.2 = md := by simpa using hz
            have h6 := S6 _ _ (hl p hp).2.2.2.2.2
            rw [this, nmd] at h6; cases h6
        by_cases hlt : d < 25
        · refine ifT (decide_eq_true (by lia)) ?_
          repeat walk_at "s"
          refine W_Dict0 fun md nmd => ?_
          repeat walk_at "s"
          refine W_append (upd_old nmd hrw6) (by lia) ?_
          repeat walk_at "s"
          exact ⟨rfl, rfl, m1, m2, ((S4.trans S6).add nmd).over nrw, fin nfl (hfl6 hlt) nmd⟩
        · refine ifF (decide_eq_false (by lia)) ?_
          repeat walk_at "s"
          refine W_Dict0 fun md nmd => ?_
          repeat walk_at "s"
          refine W_append (upd_old nmd hrw6) (by lia) ?_
          repeat walk_at "s"
          have e : deepF d = [plainF "f"] := by unfold deepF; rw [if_neg hlt]
          exact ⟨rfl, rfl, m1, m2, ((S4.trans S6).add nmd).over nrw, fin nla4 (by rw [e]; exact hla) nmd⟩
      · rintro am H4 ⟨-, -, m1, m2, S4, l, hll, hrw4, hl, hlnd⟩
        repeat walk_at "s"
        have hll : l.length = 2 := hll
        obtain ⟨p0, p1, rfl⟩ := len2 hll
        have hxl4 := S4 _ _ hxl
        obtain ⟨a1, a2, a3, a4, a5, a6⟩ := hl p0 (.head _)
        obtain ⟨b1, b2, b3, b4, b5, b6⟩ := hl p1 (.tail _ (.head _))
        refine WM_listM hxl4 slot_list_append (by kernel_rfl) ?_
        repeat walk_at "s"
        refine W_append hxl4 (by rw [List.length_map]; lia) ?_
        repeat walk_at "s"
        have up : ∀ {a o}, H4 a = some o → a ≠ lay → upd H4 lay (.list (rs.map (fun r => AV.ref r.rl) ++ [.ref rw])) a = some o := fun {a o} e n => by rw [upd_ne n]; exact e
        have hadl : lay ∉ R5.ad ⟨rw, p0.1, p0.2, p1.1, p1.2⟩ := by
          simp only [R5.ad, List.mem_cons, List.mem_nil_iff, or_false, not_or]
          exact ⟨ne2 nrw hxl, ne2 a1 hxl, ne2 a2 hxl, ne2 b1 hxl, ne2 b2 hxl⟩
        have hadc : F + 1 ∉ R5.ad ⟨rw, p0.1, p0.2, p1.1, p1.2⟩ := by
          simp only [R5.ad, List.mem_cons, List.mem_nil_iff, or_false, not_or]
          exact ⟨ne2 nrw hx1, ne2 a1 hx1, ne2 a2 hx1, ne2 b1 hx1, ne2 b2 hx1⟩
        have hnew : R5At (upd H4 lay (.list (rs.map (fun r => AV.ref r.rl) ++ [.ref rw]))) d ⟨rw, p0.1, p0.2, p1.1, p1.2⟩ :=
          ⟨up hrw4 (ne1 nrw hxl), up a5 (ne1 a1 hxl), up a6 (ne1 a2 hxl), up b5 (ne1 b1 hxl), up b6 (ne1 b2 hxl)⟩
        have at_ : ∀ {i : Nat} {r : R5}, (rs ++ [⟨rw, p0.1, p0.2, p1.1, p1.2⟩])[i]? = some r → (rs[i]? = some r ∧ i < d) ∨ (r = ⟨rw, p0.1, p0.2, p1.1, p1.2⟩ ∧ i = d) := fun {i r} e => by
          by_cases hi : i < rs.length
          · rw [List.getElem?_append_left hi] at e; exact .inl ⟨e, by lia⟩
          · rw [List.getElem?_append_right (by lia)] at e
            by_cases z : i - rs.length = 0
            · rw [z] at e; exact .inr ⟨by simpa using e.symm, by lia⟩
            · rw [List.getElem?_eq_none (by simp; lia)] at e; cases e
        refine ⟨rfl, rfl, m1, (SX.trans S4).over nlayH, ⟨_, up (S4 _ _ hx1) nl1.symm⟩, up (S4 _ _ hx2) ?_, up (S4 _ _ hx3) ?_, rs ++ [⟨rw, p0.1, p0.2, p1.1, p1.2⟩], ?_, by rw [List.length_append, hlen]; rfl, ?_, ?_⟩
        · rintro rfl; rw [hx2] at hxl; cases hxl
        · rintro rfl; rw [hx3] at hxl; cases hxl
        · rw [upd_same, List.map_append]; rfl
        · intro i r e
          rcases at_ e with ⟨e, _⟩ | ⟨rfl, rfl⟩
          · obtain ⟨h1, h2, h3⟩ := hrs2 i r e
            refine ⟨h1.to fun a o m e => up (S4 _ _ e) ?_, h2, h3⟩
            rintro rfl; exact h2 m
          · exact ⟨hnew, hadl, hadc, SX.none a2⟩
        · intro i j r s e1 e2
          rcases at_ e1 with ⟨e1, hi⟩ | ⟨rfl, rfl⟩
          · rcases at_ e2 with ⟨e2, hj⟩ | ⟨rfl, rfl⟩
            · exact hdist i j r s e1 e2
            · have h1 := (hrs2 i r e1).1
              exact ⟨fun z => absurd z (ne2 a2 h1.m0), ne2 a2 h1.m1⟩
          · rcases at_ e2 with ⟨e2, hj⟩ | ⟨rfl, rfl⟩
            · have h1 := (hrs2 j s e2).1
              exact ⟨fun z => absurd z (ne1 a2 h1.m0), ne1 b2 h1.m0⟩
            · refine ⟨fun _ => rfl, ?_⟩
              have : p0.2 ≠ p1.2 := by
                have := (List.nodup_cons.mp hlnd).1
                simpa using this
              exact fun z => this z.symm
    · rintro am H2 ⟨-, -, m1, S2, ⟨oc, hc1⟩, hc2, hc3, rs, hlay, hlen, hrs, hdist⟩
      repeat walk_at "s"
      have hlen : rs.length = 26 := by rw [hlen]; unfold rangeA; simp
      obtain ⟨r, hr⟩ : ∃ r, rs[25]? = some r := ⟨_, List.getElem?_eq_getElem (by lia)⟩
      obtain ⟨hr5, hrl, hrc, hr0⟩ := hrs 25 r hr
      refine W_glob (fun _ => rfl) lawFunc_R ?_
      repeat walk_at "s"
      refine W_item_list hlay (i := 25) (x := .ref r.rl) (by decide) ?_ ?_ (by decide)
      · show (rs.map fun r => AV.ref r.rl)[25]? = _
        rw [List.getElem?_map, hr]; rfl
      repeat walk_at "s"
      refine W_item_list hr5.rl (by decide) (by rfl) ?_ (by decide)
      repeat walk_at "s"
      refine W_setItem_dict hr5.m0 (by decide) ?_
      generalize hMd : storeA _ _ _ = Md
      have eMd : Md = Strct.dict ⟨deepF 25, deepM 25⟩ := hMd.symm.trans rfl
      subst eMd
      clear hMd
      have hm0 : upd (restore none H2) r.m0 (.dict (Strct.dict ⟨deepF 25, deepM 25⟩)) r.m0 = some (.dict (Strct.dict ⟨deepF 25, deepM 25⟩)) := upd_same ..
      have old : ∀ a o, H2 a = some o → a ≠ r.m0 → upd (restore none H2) r.m0 (.dict (Strct.dict ⟨deepF 25, deepM 25⟩)) a = some o := fun a o e n => by rw [upd_ne n]; exact e
      have SH : Sub H (upd (restore none H2) r.m0 (.dict (Strct.dict ⟨deepF 25, deepM 25⟩))) := S2.over hr0
      generalize upd (restore none H2) r.m0 (.dict (Strct.dict ⟨deepF 25, deepM 25⟩)) = H3 at hm0 old SH ⊢
      have dif : ∀ {a o}, H2 a = some o → o ≠ .dict [] → a ≠ r.m0 := fun {a o} e n z => by
        rw [z, hr5.m0] at e; cases e; exact n rfl
      have LA : LayersAt H3 lay deepLayers := by
        refine ⟨rs.map (·.rl), ?_, All2.ofGet ?_ ?_⟩
        · rw [List.map_map]; exact old _ _ hlay (dif hlay (by intro h; cases h))
        · unfold deepLayers; simp [hlen]
        · intro i rl row e1 e2
          rw [List.getElem?_map] at e1
          obtain ⟨s, hs, rfl⟩ := Option.map_eq_some_iff.mp e1
          unfold deepLayers at e2
          rw [List.getElem?_map] at e2
          obtain ⟨d, hd, rfl⟩ := Option.map_eq_some_iff.mp e2
          have hi : i < 26 := by have := (List.getElem?_eq_some_iff.mp hd).1; simpa using this
          have ed : d = i := by rw [List.getElem?_range hi] at hd; exact (Option.some.inj hd).symm
          subst ed
          obtain ⟨h5, -⟩ := hrs d s hs
          have h1 := (hdist 25 d r s hr hs).1
          have h2 := (hdist d 25 s r hs hr).2
          refine ⟨_, old _ _ h5.rl (dif h5.rl (by intro h; cases h)), .cons ⟨s.f0, s.m0, rfl, old _ _ h5.f0 (dif h5.f0 (by intro h; cases h)), ?_⟩ (.cons ⟨s.f1, s.m1, rfl, old _ _ h5.f1 (dif h5.f1 (by intro h; cases h)), ?_⟩ .nil)⟩
          · by_cases z : d = 25
            · subst z
              rw [hr] at hs; cases hs
              exact hm0
            · have e : Strct.dict ⟨deepF d, deepM d⟩ = [] := by unfold Strct.dict deepM; rw [if_neg z]; rfl
              show H3 s.m0 = some (.dict (Strct.dict ⟨deepF d, deepM d⟩))
              rw [e]
              exact old _ _ h5.m0 fun w => z (h1 w.symm).symm
          · exact old _ _ h5.m1 h2
      have hx2 : H3 (F + 1 + 1) = some (.cell none) := old _ _ hc2 (dif hc2 (by intro h; cases h))
      have hx3 : H3 (F + 1 + 1 + 1) = some (.cell none) := old _ _ hc3 (dif hc3 (by intro h; cases h))
      have hnw : H (F + 1 + 1) = none := c2
      clear hm0 old dif hr5 hrl hrc hr0 hr hrs hdist hlay hc1 hc2 hc3 S2
      repeat walk_at "s"
      refine W_Assign_Tuple ?_
      repeat walk_at "s"
      refine c_law_world LA D₀.nodup D₀.size.1 D₀.size.2 fun w H4 S4 V => ?_
      repeat walk_at "s"
      refine W_aTup (W_ino_cons (W_aNameC (S4 _ _ hx2) (W_ino_cons (W_aNameC (o₀ := none) ?_ (W_ino_nil ?_)))))
      · rw [upd_ne n23.symm]; exact S4 _ _ hx3
      have hw5 : upd (upd H4 (F + 1 + 1) (.cell (some (.ref w)))) (F + 1 + 1 + 1) (.cell (some (named "m.A0"))) (F + 1 + 1) = some (.cell (some (.ref w))) := by rw [upd_ne n23, upd_same]
      have ht5 : upd (upd H4 (F + 1 + 1) (.cell (some (.ref w)))) (F + 1 + 1 + 1) (.cell (some (named "m.A0"))) (F + 1 + 1 + 1) = some (.cell (some (named "m.A0"))) := upd_same ..
      have S5 : Sub H (upd (upd H4 (F + 1 + 1) (.cell (some (.ref w)))) (F + 1 + 1 + 1) (.cell (some (named "m.A0")))) := ((SH.trans S4).over c2).over c3
      have V5 : WorldAt (upd (upd H4 (F + 1 + 1) (.cell (some (.ref w)))) (F + 1 + 1 + 1) (.cell (some (named "m.A0")))) w (mdl deepLayers) := by
        refine (WorldAt.cell V (S4 _ _ hx2)).cell (o := none) ?_
        rw [upd_ne n23.symm]; exact S4 _ _ hx3
      generalize upd (upd H4 (F + 1 + 1) (.cell (some (.ref w)))) (F + 1 + 1 + 1) (.cell (some (named "m.A0"))) = H5 at hw5 ht5 S5 V5 ⊢
      repeat walk_at "s"
      let J5 : JL := fun as own D j acc H'' => ∃ nl, A7 (as = [.str "w", .str "f", .str "M"]) (own = some (nl, .list as)) (H5 nl = none) (D ≠ nl) (H5 D = none) (Sub H5 H'') (acc = ([AV.none, .str "two", .str "two"].take j))
      refine W_Assign_ListComp J5 (WI_list ?_)
      with_reducible refine W_hide fun R' hR' => ?_
      repeat walk_at "s"
      refine W_newList fun nl nnl => ?_
      refine hR' _ _ _ ?_
      refine ⟨nl, _, rfl, upd_same .., by decide, fun D nD => ?_⟩
      have hD1 : D ≠ nl := by rintro rfl; rw [del_same] at nD; cases nD
      have hD2 : H5 D = none := by rw [del_ne hD1, upd_ne hD1] at nD; exact nD
      refine ⟨⟨nl, rfl, rfl, nnl, hD1, hD2, fun a o e => ?_, rfl⟩, ?_, ?_⟩
      · rw [upd_ne (ne2 hD2 e), del_ne (ne2 nnl e), upd_ne (ne2 nnl e)]; exact e
      · rintro j a acc C H'' hj hD ⟨-, -, -, -, -, -, S, hacc⟩
        obtain ⟨n, rfl, hn, hj2⟩ : ∃ n : Str, a = .str n ∧ n.length ≤ 1000 ∧ ([AV.none, .str "two", .str "two"].take (j + 1)) = [AV.none, .str "two", .str "two"].take j ++ [(findAt (mdl deepLayers) "m.A0" n 26).told] := by
          match j, hj with
          | 0, hj => cases hj; exact ⟨"w", rfl, by decide, by rw [D₀.w]; rfl⟩
          | 1, hj => cases hj; exact ⟨"f", rfl, by decide, by rw [D₀.f]; rfl⟩
          | 2, hj => cases hj; exact ⟨"M", rfl, by decide, by rw [D₀.m]; rfl⟩
        refine W_tests0 ?_
        refine ifT rfl ?_
        repeat walk_at "s"
        refine W_cell (S _ _ hw5) ?_
        repeat walk_at "s"
        refine W_cell (S _ _ ht5) ?_
        repeat walk_at "s"
        refine c_law_told (p := "m.A0") (V5.sub S) (.inl rfl) D₀.lv D₀.top hn fun H6 S6 => ?_
        repeat walk_at "s"
        exact ⟨S6 _ _ hD, nl, rfl, rfl, nnl, hD1, hD2, (S.trans S6).over hD2, by rw [hj2, hacc]⟩
      · rintro acc H'' hD ⟨-, -, -, -, -, -, S, hacc⟩
        have hacc : acc = [AV.none, .str "two", .str "two"] := hacc
        have S6 : Sub H5 (restore (some (nl, AO.list [.str "w", .str "f", .str "M"])) H'') := fun a o e => by rw [restore_ne (ne2 nnl e)]; exact S a o e
        have hD6 : restore (some (nl, AO.list [.str "w", .str "f", .str "M"])) H'' D = some (.list [.none, .str "two", .str "two"]) := by rw [restore_ne hD1, hD, hacc]
        generalize restore (some (nl, AO.list [AV.str "w", .str "f", .str "M"])) H'' = H6 at S6 hD6 ⊢
        repeat walk_at "s"
        refine W_And2 ?_
        repeat walk_at "s"
        refine W_newList fun nb nnb => ?_
        repeat walk_at "s"
        refine W_eq_lists (upd_old nnb hD6) (upd_same ..) (da := [.none, .str "two", .str "two"]) (db := [.none, .str "two", .str "two"]) rfl rfl (by decide +kernel) (by decide +kernel) ?_
        have : PyData.eqvAll [.none, .str "two", .str "two"] [.none, .str "two", .str "two"] = true := by decide +kernel
        rw [this]
        repeat walk_at "s"
        refine ifT rfl ?_
        have S7 := S6.add (o := .list [AV.none, .str "two", .str "two"]) nnb
        generalize upd H6 nb _ = H7 at S7 ⊢
        repeat walk_at "s"
        refine W_cell (S7 _ _ hw5) ?_
        repeat walk_at "s"
        refine W_cell (S7 _ _ ht5) ?_
        repeat walk_at "s"
        refine c_method_set (p := "m.A0") (B := ["M"]) (V5.sub S7) (.inl rfl) D₀.lv D₀.top (by decide) (by decide) D₀.meths (fun x hx => ?_) fun fd ks H8 S8 nfd hp hfd => ?_
        · rw [List.mem_singleton.mp hx, D₀.m]; exact .inl rfl
        repeat walk_at "s"
        refine W_Dict0 fun nd nnd => ?_
        repeat walk_at "s"
        have hms : msOf (ptOf (named "m.A0")) (fun x => (findAt (mdl deepLayers) "m.A0" x 26).av) ks = [] := by
          have hk : KeysIn ["M"] (namesFrom (mdl deepLayers) 26 (lvl (mdl deepLayers) "m.A0" 0) []) := KeysIn.from_ D₀.meths (Nat.add_zero 26) ⟨List.nodup_nil, by simp⟩
          have ksn : ks.Nodup := hp.nodup_iff.mpr hk.1
          rw [msOf_eq ksn]
          unfold msList
          refine List.filterMap_eq_nil_iff.mpr fun x hx => ?_
          have ex : x = "M" := List.mem_singleton.mp (hk.2 x (hp.mem_iff.mp hx))
          rw [ex]; dsimp only; rw [D₀.m]; rfl
        rw [hms] at hfd
        refine W_eq_dicts (upd_old nnd hfd) (upd_same ..) rfl (fun p hp => by cases hp) ?_
        repeat walk_at "s"
        exact q _ (((S5.trans S7).trans S8).add nnd)
end
noncomputable def smallC : Strct := ⟨[.plain "f" (.tup [.str "bool"])], []⟩
noncomputable def smallB : Strct := ⟨[.emb "C" false "m.C"], []⟩
noncomputable def smallA : Strct := ⟨[.emb "A1" false "m.A1", .emb "B1" false "m.B1"], []⟩
noncomputable abbrev small : SRow := [("m.A0", smallA), ("m.B1", smallB), ("m.A1", smallB), ("m.C", smallC)]
/-- a world under way -/
structure WSt (H H' : AH) (w wdx nd : Addr) (F : List (Str × AV)) (done : SRow) : Prop where
  s : Sub H H'
  nn : H nd = none
  w : H' w = some (.inst 250 wdx)
  d : H' wdx = some (.idict F)
  l : ∃ l, H' nd = some (.dict l) ∧ l.length ≤ 4 + done.length ∧ ∀ ps ∈ done, ∃ r dx md pth pk, valA l ps.1 = some (.ref r) ∧ H' r = some (.inst 207 dx) ∧ H' dx = some (.idict [("path", pth), ("package", pk), ("underlying", under ps.2), ("methods", .ref md)]) ∧ H' md = some (.dict ps.2.dict) ∧ md ≠ nd
section
variable {H H' H'' : AH} {w wdx nd : Addr} {F : List (Str × AV)} {done : SRow}
theorem WSt.sub (T : WSt H H' w wdx nd F done) (S : Sub H' H'') : WSt H H'' w wdx nd F done := by
  obtain ⟨l, h1, h2, h3⟩ := T.l
  refine ⟨T.s.trans S, T.nn, S _ _ T.w, S _ _ T.d, l, S _ _ h1, h2, fun ps m => ?_⟩
  obtain ⟨r, dx, md, pth, pk, e1, e2, e3, e4, e5⟩ := h3 ps m
  exact ⟨r, dx, md, pth, pk, e1, S _ _ e2, S _ _ e3, S _ _ e4, e5⟩
theorem WSt.list (T : WSt H H' w wdx nd F done) {hl : Addr} {o : AO} (n : H hl = none) (hn : H' hl = some .lent) : WSt H (upd H' hl o) w wdx nd F done := by
  have K : ∀ {a o'}, H' a = some o' → o' ≠ .lent → upd H' hl o a = some o' := fun {a o'} e z => by
    rw [upd_ne]; exact e
    rintro rfl; rw [hn] at e; cases e; exact z rfl
  obtain ⟨l, h1, h2, h3⟩ := T.l
  refine ⟨T.s.over n, T.nn, K T.w (by simp), K T.d (by simp), l, K h1 (by simp), h2, fun ps m => ?_⟩
  obtain ⟨r, dx, md, pth, pk, e1, e2, e3, e4, e5⟩ := h3 ps m
  exact ⟨r, dx, md, pth, pk, e1, K e2 (by simp), K e3 (by simp), K e4 (by simp), e5⟩
theorem WSt.store {l : List (Str × AV)} {x dx md : Addr} {p : Str} {s : Strct} {pth pk : AV} (T : WSt H H' w wdx nd F done) (hl : H' nd = some (.dict l)) (e2 : H' x = some (.inst 207 dx)) (e3 : H' dx = some (.idict [("path", pth), ("package", pk), ("underlying", under s), ("methods", .ref md)])) (e4 : H' md = some (.dict s.dict)) (e5 : md ≠ nd) (hp : ∀ ps ∈ done, ps.1 ≠ p) :
    WSt H (upd H' nd (.dict (storeA l p (.ref x)))) w wdx nd F ((p, s) :: done) := by
  obtain ⟨l', h1, h2, h3⟩ := T.l
  rw [hl] at h1; cases h1
  have up : ∀ {b o y}, H' b = some o → (∀ l, o ≠ .dict l) → upd H' nd y b = some o := fun {b o y} e n => by
    rw [upd_ne]; exact e
    rintro rfl; rw [hl] at e; cases e; exact n _ rfl
  refine ⟨T.s.over T.nn, T.nn, up T.w (by simp), up T.d (by simp), _, upd_same .., ?_, fun ps m => ?_⟩
  · have := @storeA_le l p (.ref x)
    rw [List.length_cons]; lia
  · rcases List.mem_cons.mp m with rfl | m
    · exact ⟨x, dx, md, _, _, by rw [valA_store, if_pos rfl], up e2 (by simp), up e3 (by simp), by rw [upd_ne e5]; exact e4, e5⟩
    · obtain ⟨r, dx', md', pth, pk, e1, f2, f3, f4, f5⟩ := h3 ps m
      exact ⟨r, dx', md', pth, pk, by rw [valA_store, if_neg (hp ps m)]; exact e1, up f2 (by simp), up f3 (by simp), by rw [upd_ne f5]; exact f4, f5⟩
theorem WSt.world (T : WSt H H' w wdx nd F done) (h1 : valA F "named" = some (.ref nd)) (h2 : valA F "base_of" = none) : WorldAt H' w (mdl [done]) := by
  obtain ⟨l, e1, e2, e3⟩ := T.l
  refine ⟨wdx, nd, l, F, T.w, T.d, h1, h2, e1, fun p s hp => ?_⟩
  have := mdl_mem hp
  obtain ⟨r, dx, md, pth, pk, f1, f2, f3, f4, f5⟩ := e3 (p, s) (by simpa using this)
  exact ⟨r, f1, dx, md, pth, pk, f2, f3, f4⟩
end
noncomputable def doneS : Nat → SRow
  | 0 => [("m.C", smallC)]
  | 1 => [("m.A1", smallB), ("m.C", smallC)]
  | _ => [("m.B1", smallB), ("m.A1", smallB), ("m.C", smallC)]
noncomputable def smallL : Nat → Lv
  | 0 => ([], [⟨"m.A0", [], false⟩])
  | 1 => ([("m.A0", .bool true)], [⟨"m.A1", [.tup [.int 0, .bool false]], false⟩, ⟨"m.B1", [.tup [.int 1, .bool false]], false⟩])
  | 2 => ([("m.A0", .bool true), ("m.A1", .bool true), ("m.B1", .bool true)], [⟨"m.C", [.tup [.int 0, .bool false], .tup [.int 0, .bool false]], true⟩])
  | _ => ([("m.A0", .bool true), ("m.A1", .bool true), ("m.B1", .bool true), ("m.C", .bool true)], [])
theorem small_0 : lvl (mdl [small]) "m.A0" 0 = smallL 0 := by kernel_rfl
theorem small_1 : lvl (mdl [small]) "m.A0" 1 = smallL 1 := by kernel_rfl
theorem small_2 : lvl (mdl [small]) "m.A0" 2 = smallL 2 := by kernel_rfl
theorem small_3 : lvl (mdl [small]) "m.A0" 3 = smallL 3 := by kernel_rfl
theorem small_k : ∀ i, i < 4 → lvl (mdl [small]) "m.A0" i = smallL i
  | 0, _ => small_0
  | 1, _ => small_1
  | 2, _ => small_2
  | 3, _ => small_3
theorem small_lv : LvOk (mdl [small]) "m.A0" 3 where
  ends := by rw [small_k 3 (by decide)]; rfl
  goes := fun i hi => by
    rw [small_k i (by lia)]
    match i, hi with
    | 0, _ => simp [smallL]
    | 1, _ => simp [smallL]
    | 2, _ => simp [smallL]
  knows := fun i hi r m => by
    rw [small_k i (by lia)] at m
    match i, hi with
    | 0, _ => rw [List.mem_singleton.mp m]; exact ⟨smallA, by kernel_rfl, by decide⟩
    | 1, _ =>
      rcases List.mem_cons.mp m with rfl | m
      · exact ⟨smallB, by kernel_rfl, by decide⟩
      · rw [List.mem_singleton.mp m]; exact ⟨smallB, by kernel_rfl, by decide⟩
    | 2, _ => rw [List.mem_singleton.mp m]; exact ⟨smallC, by kernel_rfl, by decide⟩
  short := fun i hi r m => by
    rw [small_k i (by lia)] at m
    match i, hi with
    | 0, _ => rw [List.mem_singleton.mp m]; decide
    | 1, _ =>
      rcases List.mem_cons.mp m with rfl | m
      · decide
      · rw [List.mem_singleton.mp m]; decide
    | 2, _ => rw [List.mem_singleton.mp m]; decide
  few := fun i hi => by
    rw [small_k i (by lia)]
    match i, hi with
    | 0, _ => decide
    | 1, _ => decide
    | 2, _ => decide
  seen := fun i hi => by
    rw [small_k i (by lia)]
    match i, hi with
    | 0, _ => decide
    | 1, _ => decide
    | 2, _ => decide
theorem small_f : findAt (mdl [small]) "m.A0" "f" 3 = .two := by kernel_rfl
section
variable {c : Cfg} {k : Nat} {H : AH}
end
noncomputable def wayR (r : Rch) : Way := (r.path, r.steps)
noncomputable def mark (tw : Bool) (w : Way) : Rch := ⟨w.1, w.2, tw⟩
theorem embFrom_eq {r : Rch} : ∀ {fs : List Fld} {i : Nat}, embFrom r fs i = (fieldsLater r.steps fs i).map (mark r.tw)
  | [], _ => rfl
  | .plain _ _ :: fs, i => embFrom_eq (fs := fs) (i := i + 1)
  | .emb _ ptr p :: fs, i => by
    unfold embFrom fieldsLater
    rw [embFrom_eq (fs := fs) (i := i + 1)]; rfl
/-- the types that are embedded on a level -/
noncomputable def below (M : Mdl) (rs : List Rch) : List Rch := rs.flatMap fun r => (wayLater M (wayR r)).map (mark r.tw)
theorem fieldsOf_eq {M : Mdl} {p : Str} : fieldsOf M p = (strOf M p).fields := by unfold fieldsOf strOf; cases M p <;> rfl
theorem nextLevel_eq {M : Mdl} {seen : List (Str × AV)} {rs : List Rch} : nextLevel M seen rs = (below M rs).foldl (stepIn seen) [] := by
  have key : ∀ {rs later : List Rch}, rs.foldl (innerOf M seen) later = (below M rs).foldl (stepIn seen) later := by
    intro rs
    induction rs with
    | nil => intro later; rfl
    | cons r rs ih =>
      intro later
      rw [List.foldl_cons, ih]
      unfold below
      rw [List.flatMap_cons, List.foldl_append]
      unfold innerOf wayLater wayR
      rw [embFrom_eq, fieldsOf_eq]
  exact key
noncomputable abbrev onP (q : Str) (l : List Rch) : List Rch := l.filter fun x => decide (x.path = q)
noncomputable abbrev onW (q : Str) (l : List Way) : List Way := l.filter fun x => decide (x.1 = q)
/-- a level made of the types that are embedded -/
structure Col (C rs : List Rch) : Prop where
  nd : (rs.map (·.path)).Nodup
  cov : ∀ x ∈ C, ∃ r ∈ rs, r.path = x.path
  one : ∀ r ∈ rs, onP r.path C = [r] ∨ (r.tw = true ∧ 2 ≤ (onP r.path C).length)
  frm : ∀ r ∈ rs, ∃ x ∈ C, x.path = r.path ∧ x.steps = r.steps
theorem Col.step {C rs : List Rch} {seen : List (Str × AV)} {x : Rch} (K : Col C rs) (h : valA seen x.path = none) : Col (C ++ [x]) (stepIn seen rs x) := by
  refine ⟨stepIn_nodup K.nd, ?_, ?_, ?_⟩
  · intro y hy
    unfold stepIn
    rcases List.mem_append.mp hy with hy | hy
    · obtain ⟨r, hr, e⟩ := K.cov y hy
      split
      · exact ⟨twice x.path r, List.mem_map.mpr ⟨r, hr, rfl⟩, by rw [twice_path]; exact e⟩
      · split
        · exact ⟨r, hr, e⟩
        · exact ⟨r, List.mem_append_left _ hr, e⟩
    · rw [List.mem_singleton.mp hy]
      split
      · rename_i z
        obtain ⟨r, hr, e⟩ := List.any_eq_true.mp z
        exact ⟨twice x.path r, List.mem_map.mpr ⟨r, hr, rfl⟩, by rw [twice_path]; exact of_decide_eq_true e⟩
      · rw [h]
        exact ⟨x, List.mem_append_right _ (List.mem_singleton.mpr rfl), rfl⟩
  · intro r hr
    unfold onP
    rw [List.filter_append]
    unfold stepIn at hr
    split at hr
    · obtain ⟨r, hr', rfl⟩ := List.mem_map.mp hr
      rw [twice_path]
      clear hr
      have hr := hr'
      by_cases z : r.path = x.path
      · refine .inr ⟨by unfold twice; rw [if_pos z], ?_⟩
        have : 1 ≤ (onP r.path C).length := by
          rcases K.one r hr with e | ⟨_, e⟩
          · rw [e]; exact Nat.le_refl _
          · lia
        rw [List.length_append, List.filter_cons, if_pos (decide_eq_true z.symm)]
        simp only [List.filter_nil, List.length_singleton]
        exact Nat.succ_le_succ this
      · have e1 : twice x.path r = r := by unfold twice; rw [if_neg z]
        have e2 : [x].filter (fun y => decide (y.path = r.path)) = [] := by simp; exact fun e => z e.symm
        rw [e1, e2, List.append_nil]
        exact K.one r hr
    · rename_i na
      rw [h] at hr
      rcases List.mem_append.mp hr with hr | hr
      · have z : ¬ x.path = r.path := fun e => na (List.any_eq_true.mpr ⟨r, hr, decide_eq_true e.symm⟩)
        have e2 : [x].filter (fun y => decide (y.path = r.path)) = [] := by simp [z]
        rw [e2, List.append_nil]
        exact K.one r hr
      · rw [List.mem_singleton.mp hr]
        have e1 : C.filter (fun y => decide (y.path = x.path)) = [] := by
          refine List.filter_eq_nil_iff.mpr fun y hy e => na ?_
          obtain ⟨r', hr', e'⟩ := K.cov y hy
          exact List.any_eq_true.mpr ⟨r', hr', decide_eq_true (e'.trans (of_decide_eq_true e))⟩
        rw [e1]
        exact .inl (by simp)
  · intro r hr
    unfold stepIn at hr
    split at hr
    · obtain ⟨r, hr', rfl⟩ := List.mem_map.mp hr
      obtain ⟨y, hy, e1, e2⟩ := K.frm r hr'
      refine ⟨y, List.mem_append_left _ hy, by rw [twice_path]; exact e1, ?_⟩
      unfold twice; split <;> exact e2
    · rw [h] at hr
      rcases List.mem_append.mp hr with hr | hr
      · obtain ⟨y, hy, e1, e2⟩ := K.frm r hr
        exact ⟨y, List.mem_append_left _ hy, e1, e2⟩
      · rw [List.mem_singleton.mp hr]
        exact ⟨x, List.mem_append_right _ (List.mem_singleton.mpr rfl), rfl, rfl⟩
theorem Col.fold {seen : List (Str × AV)} : ∀ {C C₀ rs : List Rch}, Col C₀ rs → (∀ x ∈ C, valA seen x.path = none) → Col (C₀ ++ C) (C.foldl (stepIn seen) rs)
  | [], C₀, rs, K, _ => by rw [List.append_nil]; exact K
  | x :: C, C₀, rs, K, h => by
    have := Col.fold (C := C) (K.step (h x (.head _))) fun y m => h y (.tail _ m)
    rw [List.append_assoc] at this
    exact this
/-- the ways of the law and the level of the walk -/
structure Rel (ways : List Way) (rs : List Rch) : Prop where
  nd : (rs.map (·.path)).Nodup
  cov : ∀ w ∈ ways, ∃ r ∈ rs, r.path = w.1
  one : ∀ r ∈ rs, r.tw = false → onW r.path ways = [wayR r]
  two : ∀ r ∈ rs, r.tw = true → 2 ≤ (onW r.path ways).length
theorem flatMap_on {α β : Type} {g : α → List β} {p : α → Bool} : ∀ {l : List α}, (∀ w ∈ l, p w = false → g w = []) → l.flatMap g = (l.filter p).flatMap g
  | [], _ => rfl
  | w :: l, h => by
    have ih := flatMap_on (g := g) (p := p) (l := l) fun x m => h x (.tail _ m)
    rw [List.flatMap_cons, ih]
    cases z : p w with
    | true => rw [List.filter_cons, if_pos z, List.flatMap_cons]
    | false => rw [List.filter_cons, if_neg (by rw [z]; exact Bool.false_ne_true), h w (.head _) z, List.nil_append]
section
variable {β : Type} {ways : List Way} {rs : List Rch} {g : Way → List β} {G : Str → Nat}
theorem Rel.zero (X : Rel ways rs) (hg : ∀ w, (g w).length = G w.1) (h : ∀ r ∈ rs, G r.path = 0) : ways.flatMap g = [] := by
  refine List.flatMap_eq_nil_iff.mpr fun w m => ?_
  obtain ⟨r, hr, e⟩ := X.cov w m
  exact List.eq_nil_of_length_eq_zero (by rw [hg, ← e]; exact h r hr)
theorem Rel.single (X : Rel ways rs) (hg : ∀ w, (g w).length = G w.1) {r : Rch} (hr : r ∈ rs) (ht : r.tw = false) (h : ∀ r2 ∈ rs, r2.path ≠ r.path → G r2.path = 0) : ways.flatMap g = g (wayR r) := by
  rw [flatMap_on (p := fun w => decide (w.1 = r.path)) fun w m z => ?_]
  · have := X.one r hr ht
    unfold onW at this
    rw [this]; simp
  · obtain ⟨r2, hr2, e⟩ := X.cov w m
    refine List.eq_nil_of_length_eq_zero (by rw [hg, ← e]; exact h r2 hr2 (by rw [e]; exact of_decide_eq_false z))
theorem flat_len {l : List Way} (hg : ∀ w, (g w).length = G w.1) : (l.flatMap g).length = ((l.map (·.1)).map G).sum := by
  rw [List.length_flatMap, List.map_map]
  congr 1
  exact List.map_congr_left fun w _ => hg w
theorem sum_filter {p : Way → Bool} : ∀ {l : List Way}, (((l.filter p).map (·.1)).map G).sum ≤ ((l.map (·.1)).map G).sum
  | [] => Nat.le_refl _
  | w :: l => by
    have := sum_filter (p := p) (l := l)
    rw [List.filter_cons]
    split
    · simp only [List.map_cons, List.sum_cons]; lia
    · simp only [List.map_cons, List.sum_cons]; lia
theorem sum_const {q : Str} : ∀ {l : List Way}, (∀ w ∈ l, w.1 = q) → ((l.map (·.1)).map G).sum = l.length * G q
  | [], _ => by simp
  | w :: l, h => by
    have := sum_const (l := l) fun x m => h x (.tail _ m)
    simp only [List.map_cons, List.sum_cons, List.length_cons, Nat.succ_mul, h w (.head _), this]; lia
theorem Rel.twice (X : Rel ways rs) (hg : ∀ w, (g w).length = G w.1) {r : Rch} (hr : r ∈ rs) (ht : r.tw = true) (h : 1 ≤ G r.path) : 2 ≤ (ways.flatMap g).length := by
  rw [flat_len hg]
  refine Nat.le_trans ?_ (sum_filter (p := fun w => decide (w.1 = r.path)))
  rw [sum_const (q := r.path) fun w m => of_decide_eq_true (List.mem_filter.mp m).2]
  exact Nat.le_trans (X.two r hr ht) (Nat.le_mul_of_pos_right _ h)
theorem sum_le : ∀ {L W : List Str}, L.Nodup → (∀ x ∈ L, x ∈ W) → (L.map G).sum ≤ (W.map G).sum
  | [], _, _, _ => Nat.zero_le _
  | x :: L, W, n, h => by
    obtain ⟨n1, n2⟩ := List.nodup_cons.mp n
    have hx := h x (.head _)
    have ih := sum_le (L := L) (W := W.erase x) n2 fun y m => (List.mem_erase_of_ne (by rintro rfl; exact n1 m)).mpr (h y (.tail _ m))
    have e : (W.map G).sum = ((x :: W.erase x).map G).sum := ((List.perm_cons_erase hx).map G).sum_nat
    rw [e, List.map_cons, List.map_cons, List.sum_cons, List.sum_cons]; lia
theorem Rel.mem (X : Rel ways rs) {r : Rch} (hr : r ∈ rs) : r.path ∈ ways.map (·.1) := by
  have : onW r.path ways ≠ [] := by
    cases ht : r.tw with
    | false => rw [X.one r hr ht]; simp
    | true => intro e; have := X.two r hr ht; rw [e] at this; simp at this
  obtain ⟨w, hw⟩ := List.exists_mem_of_ne_nil _ this
  exact List.mem_map.mpr ⟨w, (List.mem_filter.mp hw).1, of_decide_eq_true (List.mem_filter.mp hw).2⟩
theorem Rel.sum (X : Rel ways rs) (hg : ∀ w, (g w).length = G w.1) : (rs.map fun r => G r.path).sum ≤ (ways.flatMap g).length := by
  rw [flat_len hg]
  have := sum_le (G := G) (L := rs.map (·.path)) (W := ways.map (·.1)) X.nd fun x m => by
    obtain ⟨r, hr, rfl⟩ := List.mem_map.mp m
    exact X.mem hr
  rwa [List.map_map] at this
end
noncomputable def embP : List Fld → List Str
  | [] => []
  | .plain _ _ :: l => embP l
  | .emb _ _ p :: l => p :: embP l
theorem later_paths {st : List AV} : ∀ {fs : List Fld} {i : Nat}, (fieldsLater st fs i).map (·.1) = embP fs
  | [], _ => rfl
  | .plain _ _ :: fs, i => later_paths (fs := fs) (i := i + 1)
  | .emb _ _ p :: fs, i => by
    unfold fieldsLater embP
    rw [List.map_cons, later_paths (fs := fs) (i := i + 1)]
theorem on_len {q : Str} {l : List Way} : (onW q l).length = ((l.map (·.1)).filter fun x => decide (x = q)).length := by
  rw [List.filter_map, List.length_map]; rfl
theorem flatMap_single {α β : Type} {f : α → List β} {a : β} : ∀ {l : List α}, l.flatMap f = [a] → ∃ l1 x l2, l = l1 ++ x :: l2 ∧ f x = [a] ∧ (∀ y ∈ l1, f y = []) ∧ ∀ y ∈ l2, f y = [] := by
  intro l
  induction l with
  | nil => intro h; cases h
  | cons x l ih =>
    intro h
    rw [List.flatMap_cons] at h
    rcases List.append_eq_singleton_iff.mp h with ⟨e1, e2⟩ | ⟨e1, e2⟩
    · obtain ⟨l1, y, l2, rfl, h1, h2, h3⟩ := ih e2
      exact ⟨x :: l1, y, l2, rfl, h1, fun z m => (List.mem_cons.mp m).elim (fun q => q ▸ e1) (h2 z), h3⟩
    · exact ⟨[], x, l, rfl, e1, (fun y m => by cases m), List.flatMap_eq_nil_iff.mp e2⟩
theorem single_path {α : Type} {f : Rch → List α} {a : α} {rs : List Rch} (n : (rs.map (·.path)).Nodup) (h : rs.flatMap f = [a]) : ∃ r ∈ rs, f r = [a] ∧ ∀ r2 ∈ rs, r2.path ≠ r.path → f r2 = [] := by
  obtain ⟨l1, x, l2, rfl, h1, h2, h3⟩ := flatMap_single h
  refine ⟨x, by simp, h1, fun r2 m ne => ?_⟩
  rcases List.mem_append.mp m with m | m
  · exact h2 _ m
  · rcases List.mem_cons.mp m with rfl | m
    · exact absurd rfl ne
    · exact h3 _ m
theorem below_on {M : Mdl} {q : Str} : ∀ {rs : List Rch}, onP q (below M rs) = rs.flatMap fun r => (onW q (wayLater M (wayR r))).map (mark r.tw)
  | [] => rfl
  | r :: rs => by
    have ih := below_on (M := M) (q := q) (rs := rs)
    unfold below onP at *
    rw [List.flatMap_cons, List.filter_append, ih, List.flatMap_cons, List.filter_map]
    rfl
theorem ways_on {M : Mdl} {q : Str} : ∀ {ways : List Way}, onW q (ways.flatMap (wayLater M)) = ways.flatMap fun w => onW q (wayLater M w)
  | [] => rfl
  | w :: ways => by
    have ih := ways_on (M := M) (q := q) (ways := ways)
    unfold onW at *
    rw [List.flatMap_cons, List.filter_append, ih, List.flatMap_cons]
theorem Rel.next {M : Mdl} {ways : List Way} {rs rs' : List Rch} (X : Rel ways rs) (K : Col (below M rs) rs') : Rel (ways.flatMap (wayLater M)) rs' := by
  have hG : ∀ (q : Str) (w : Way), (onW q (wayLater M w)).length = ((embP (strOf M w.1).fields).filter fun x => decide (x = q)).length := fun q w => by
    rw [on_len]; unfold wayLater; rw [later_paths]
  have lenE : ∀ (q : Str) (r : Rch), ((onW q (wayLater M (wayR r))).map (mark r.tw)).length = ((embP (strOf M r.path).fields).filter fun x => decide (x = q)).length := fun q r => by
    rw [List.length_map, hG]; rfl
  refine ⟨K.nd, ?_, ?_, ?_⟩
  · intro w' m
    obtain ⟨w, hw, hm⟩ := List.mem_flatMap.mp m
    obtain ⟨r, hr, e⟩ := X.cov w hw
    have : w'.1 ∈ (wayLater M (wayR r)).map (·.1) := by
      have h := List.mem_map.mpr ⟨w', hm, (rfl : w'.1 = w'.1)⟩
      unfold wayLater at h ⊢
      rw [later_paths] at h ⊢
      rw [show (wayR r).1 = w.1 from e]; exact h
    obtain ⟨w2, h2, e2⟩ := List.mem_map.mp this
    obtain ⟨r', hr', e'⟩ := K.cov (mark r.tw w2) (List.mem_flatMap.mpr ⟨r, hr, List.mem_map.mpr ⟨w2, h2, rfl⟩⟩)
    exact ⟨r', hr', e'.trans e2⟩
  · intro r' hr' ht'
    rcases K.one r' hr' with e | ⟨e, _⟩
    · rw [below_on] at e
      obtain ⟨r, hr, h1, h2⟩ := single_path X.nd e
      have h3 : ∀ r2 ∈ rs, r2.path ≠ r.path → ((embP (strOf M r2.path).fields).filter fun x => decide (x = r'.path)).length = 0 := fun r2 m ne => by
        rw [← lenE, h2 r2 m ne]; rfl
      obtain ⟨w, hw, e2⟩ : ∃ w, onW r'.path (wayLater M (wayR r)) = [w] ∧ mark r.tw w = r' := by
        cases hl : onW r'.path (wayLater M (wayR r)) with
        | nil => rw [hl] at h1; cases h1
        | cons w l =>
          rw [hl, List.map_cons] at h1
          injection h1 with a b
          exact ⟨w, by rw [List.map_eq_nil_iff.mp b], a⟩
      have ht : r.tw = false := by rw [← ht', ← e2]; rfl
      rw [ways_on, X.single (g := fun w => onW r'.path (wayLater M w)) (G := fun p => ((embP (strOf M p).fields).filter fun x => decide (x = r'.path)).length) (hG r'.path) hr ht h3]
      rw [hw, ← e2]; rfl
    · rw [ht'] at e; cases e
  · intro r' hr' ht'
    rw [ways_on]
    rcases K.one r' hr' with e | ⟨_, e⟩
    · rw [below_on] at e
      obtain ⟨r, hr, h1, h2⟩ := single_path X.nd e
      have ht : r.tw = true := by
        cases hl : onW r'.path (wayLater M (wayR r)) with
        | nil => rw [hl] at h1; cases h1
        | cons w l =>
          rw [hl, List.map_cons] at h1
          injection h1 with a b
          rw [← ht', ← a]; rfl
      refine X.twice (g := fun w => onW r'.path (wayLater M w)) (G := fun p => ((embP (strOf M p).fields).filter fun x => decide (x = r'.path)).length) (hG r'.path) hr ht ?_
      have := lenE r'.path r
      rw [h1] at this
      exact Nat.le_of_eq this
    · rw [below_on, List.length_flatMap] at e
      refine Nat.le_trans e (Nat.le_trans (Nat.le_of_eq ?_) (X.sum (g := fun w => onW r'.path (wayLater M w)) (G := fun p => ((embP (strOf M p).fields).filter fun x => decide (x = r'.path)).length) (hG r'.path)))
      congr 1
      exact List.map_congr_left fun r _ => lenE r'.path r
/-- what a list of members comes to -/
noncomputable def outOf : List AV → Out
  | [] => .none
  | [a] => .one a
  | _ => .two
theorem outOf_two {l : List AV} (h : 2 ≤ l.length) : outOf l = .two := by
  match l, h with
  | _ :: _ :: _, _ => rfl
noncomputable def memN (s : Strct) (name : Str) : Nat := match methOf s name with
  | some _ => 1
  | none => if s.fields.any (fun f => decide (f.name = name)) then 1 else 0
theorem fieldAt_len {st : List AV} {name : Str} : ∀ {fs : List Fld} {i : Nat}, (fieldAt st name fs i).toList.length = if fs.any (fun f => decide (f.name = name)) then 1 else 0
  | [], _ => rfl
  | f :: fs, i => by
    unfold fieldAt
    by_cases z : f.name = name
    · rw [if_pos z, List.any_cons, decide_eq_true z]; rfl
    · rw [if_neg z, List.any_cons, decide_eq_false z, Bool.false_or]; exact fieldAt_len
theorem memberAt_len {s : Strct} {r : Rch} {name : Str} : (memberAt s r name).length = memN s name := by
  unfold memberAt memN
  cases methOf s name with
  | some m => rfl
  | none => exact fieldAt_len
noncomputable abbrev memW (M : Mdl) (name : Str) (w : Way) : List AV := memberAt (strOf M w.1) (mark false w) name
theorem Rel.out {M : Mdl} {name : Str} {ways : List Way} {rs : List Rch} (X : Rel ways rs) : outOf (foundAt M name rs) = outOf (ways.flatMap (memW M name)) := by
  have hG : ∀ w : Way, (memW M name w).length = memN (strOf M w.1) name := fun w => memberAt_len
  have lenF : ∀ r : Rch, (foundOf M name r).length = if r.tw then memN (strOf M r.path) name + memN (strOf M r.path) name else memN (strOf M r.path) name := fun r => by
    unfold foundOf
    split
    · rw [List.length_append, memberAt_len]
    · rw [memberAt_len]
  have lenG : ∀ r : Rch, memN (strOf M r.path) name ≤ (foundOf M name r).length := fun r => by
    rw [lenF]; split <;> lia
  match e : foundAt M name rs with
  | [] =>
    have h := List.flatMap_eq_nil_iff.mp e
    rw [X.zero (G := fun p => memN (strOf M p) name) hG fun r hr => by
      have := lenG r
      rw [h r hr] at this
      exact Nat.le_zero.mp this]
  | [a] =>
    obtain ⟨r, hr, h1, h2⟩ := single_path X.nd e
    have ht : r.tw = false := by
      cases z : r.tw with
      | false => rfl
      | true =>
        have := lenF r
        rw [h1, z, if_pos rfl] at this
        simp only [List.length_singleton] at this
        lia
    rw [X.single (G := fun p => memN (strOf M p) name) hG hr ht fun r2 m ne => by
      have := lenG r2
      rw [h2 r2 m ne] at this
      exact Nat.le_zero.mp this]
    have : foundOf M name r = memW M name (wayR r) := by unfold foundOf; rw [ht]; rfl
    rw [← this, h1]
  | a :: b :: l =>
    rw [outOf_two (by simp)]
    refine (outOf_two ?_).symm
    by_cases z : ∃ r ∈ rs, r.tw = true ∧ 1 ≤ memN (strOf M r.path) name
    · obtain ⟨r, hr, ht, h1⟩ := z
      exact X.twice (G := fun p => memN (strOf M p) name) hG hr ht h1
    · refine Nat.le_trans ?_ (X.sum (G := fun p => memN (strOf M p) name) hG)
      have e2 : (foundAt M name rs).length = (rs.map fun r => memN (strOf M r.path) name).sum := by
        unfold foundAt
        rw [List.length_flatMap]
        congr 1
        refine List.map_congr_left fun r m => ?_
        rw [lenF]
        split
        · rename_i t
          have : ¬ 1 ≤ memN (strOf M r.path) name := fun h => z ⟨r, m, t, h⟩
          lia
        · rfl
      rw [← e2, e]; simp
noncomputable abbrev keys (row : SRow) : List Str := row.map (·.1)
/-- rows apart, each row embeds of the next alone -/
structure Layered (layers : List SRow) : Prop where
  nodup : (layers.flatten.map (·.1)).Nodup
  next : ∀ (i : Nat) (row : SRow), layers[i]? = some row → ∀ ps ∈ row, ∀ q ∈ embP ps.2.fields, ∃ row', layers[i + 1]? = some row' ∧ q ∈ keys row'
  goes : ∀ (i : Nat) (row : SRow), layers[i]? = some row → i + 1 < layers.length → ∀ ps ∈ row, embP ps.2.fields ≠ []
  size : layers.length ≤ 30
  rows : ∀ row ∈ layers, row.length ≤ 2
  fields : ∀ row ∈ layers, ∀ ps ∈ row, ps.2.fields.length ≤ 10 ∧ (embP ps.2.fields).length ≤ 2
  top : ∃ row, layers[0]? = some row ∧ ("m.A0" : Str) ∈ keys row
theorem find_nodup {l : SRow} (n : (keys l).Nodup) {p : Str} {s : Strct} (m : (p, s) ∈ l) : l.find? (fun ps => decide (ps.1 = p)) = some (p, s) := by
  induction l with
  | nil => cases m
  | cons x l ih =>
    rw [keys, List.map_cons, List.nodup_cons] at n
    rcases List.mem_cons.mp m with h | h
    · rw [← h, List.find?_cons]; simp
    · have : ¬ x.1 = p := fun e => n.1 (List.mem_map.mpr ⟨(p, s), h, e.symm⟩)
      rw [List.find?_cons]
      simp only [this, decide_false]
      exact ih n.2 h
section
variable {layers : List SRow}
theorem Layered.rowNodup (L : Layered layers) {row : SRow} (m : row ∈ layers) : (keys row).Nodup :=
  List.Nodup.sublist ((List.sublist_flatten_of_mem m).map _) L.nodup
theorem Layered.atRow (L : Layered layers) {row : SRow} (m : row ∈ layers) {p : Str} {s : Strct} (h : (p, s) ∈ row) : Mine.rowM row p = some s := by
  unfold Mine.rowM
  rw [find_nodup (L.rowNodup m) h]; rfl
theorem Layered.atMdl (L : Layered layers) {row : SRow} (m : row ∈ layers) {p : Str} {s : Strct} (h : (p, s) ∈ row) : Mine.mdl layers p = some s := by
  unfold Mine.mdl
  rw [find_nodup L.nodup (List.mem_flatten.mpr ⟨row, m, h⟩)]; rfl
theorem Layered.apart (L : Layered layers) {i j : Nat} {r1 r2 : SRow} (h : i < j) (e1 : layers[i]? = some r1) (e2 : layers[j]? = some r2) {x : Str} (m1 : x ∈ keys r1) (m2 : x ∈ keys r2) : False := by
  have n := L.nodup
  unfold List.Nodup at n
  rw [List.map_flatten, List.pairwise_flatten] at n
  have := List.pairwise_iff_getElem.mp n.2
  obtain ⟨h1, rfl⟩ := List.getElem?_eq_some_iff.mp e1
  obtain ⟨h2, rfl⟩ := List.getElem?_eq_some_iff.mp e2
  have k := this i j (by simpa using h1) (by simpa using h2) h x (by simpa [keys] using m1) x (by simpa [keys] using m2)
  exact k rfl
/-- a type of a row, by its path -/
theorem Layered.at_ (L : Layered layers) {i : Nat} {row : SRow} (e : layers[i]? = some row) {p : Str} (m : p ∈ keys row) : ∃ s, (p, s) ∈ row ∧ Mine.mdl layers p = some s ∧ Mine.strOf (Mine.mdl layers) p = s ∧ Mine.strOf (Mine.rowM row) p = s := by
  obtain ⟨ps, h, rfl⟩ := List.mem_map.mp m
  have hm := List.mem_of_getElem? e
  exact ⟨ps.2, h, L.atMdl hm h, strOf_some (L.atMdl hm h), strOf_some (L.atRow hm h)⟩
end
/-- the ways of the law on a level -/
noncomputable def wy (M : Mdl) : Nat → List Way
  | 0 => ways0
  | i + 1 => (wy M i).flatMap (wayLater M)
structure AtL (layers : List SRow) (i : Nat) (ways : List Way) (l : Lv) : Prop where
  rel : Rel ways l.2
  inn : ∀ r ∈ l.2, ∃ row, layers[i]? = some row ∧ r.path ∈ keys row
  seen : ∀ x ∈ l.1.map (·.1), ∃ j row, j < i ∧ layers[j]? = some row ∧ x ∈ keys row
  steps : ∀ r ∈ l.2, StepsOk r.steps ∧ r.steps.length = i
  wsteps : ∀ w ∈ ways, w.2.length = i
theorem seenAfter_keys {x : Str} : ∀ {rs : List Rch} {seen : List (Str × AV)}, x ∈ (seenAfter seen rs).map (·.1) → x ∈ seen.map (·.1) ∨ ∃ r ∈ rs, r.path = x
  | [], _, h => .inl h
  | r :: rs, seen, h => by
    rcases seenAfter_keys (rs := rs) (seen := storeA seen r.path (.bool true)) h with h | ⟨r', m, e⟩
    · rw [storeA_keys] at h
      split at h
      · exact .inl h
      · rcases List.mem_append.mp h with h | h
        · exact .inl h
        · exact .inr ⟨r, .head _, (List.mem_singleton.mp h).symm⟩
    · exact .inr ⟨r', .tail _ m, e⟩
theorem valA_keys {l : List (Str × AV)} {x : Str} (h : x ∉ l.map (·.1)) : valA l x = none := by
  unfold valA
  rw [List.find?_eq_none.mpr]
  · rfl
  · intro p m e
    exact h (List.mem_map.mpr ⟨p, m, of_decide_eq_true e⟩)
theorem later_steps {st : List AV} : ∀ {fs : List Fld} {i : Nat}, ∀ w ∈ fieldsLater st fs i, ∃ (j : Int) (b : Bool), w.2 = st ++ [.tup [.int j, .bool b]]
  | [], _, _, m => by cases m
  | .plain _ _ :: fs, i, w, m => later_steps (fs := fs) (i := i + 1) w m
  | .emb _ b p :: fs, i, w, m => by
    unfold fieldsLater at m
    rcases List.mem_cons.mp m with rfl | m
    · exact ⟨i, b, rfl⟩
    · exact later_steps (fs := fs) (i := i + 1) w m
section
variable {layers : List SRow} {i : Nat} {ways : List Way} {l : Lv}
theorem AtL.belowR (X : AtL layers i ways l) (L : Layered layers) {x : Rch} (m : x ∈ below (mdl layers) l.2) : (∃ row, layers[i + 1]? = some row ∧ x.path ∈ keys row) ∧ StepsOk x.steps ∧ x.steps.length = i + 1 := by
  obtain ⟨r, hr, hx⟩ := List.mem_flatMap.mp m
  obtain ⟨w, hw, rfl⟩ := List.mem_map.mp hx
  obtain ⟨row, e, hp⟩ := X.inn r hr
  obtain ⟨s, hs, -, h1, -⟩ := L.at_ e hp
  refine ⟨?_, ?_⟩
  · refine L.next i row e (r.path, s) hs w.1 ?_
    rw [← later_paths (st := r.steps) (i := 0)]
    refine List.mem_map.mpr ⟨w, ?_, rfl⟩
    unfold wayLater wayR at hw
    rw [h1] at hw; exact hw
  · obtain ⟨j, b, e⟩ := later_steps w hw
    obtain ⟨k1, k2⟩ := X.steps r hr
    show StepsOk w.2 ∧ w.2.length = i + 1
    rw [e]
    refine ⟨fun y hy => ?_, by rw [List.length_append]; show r.steps.length + 1 = i + 1; lia⟩
    rcases List.mem_append.mp hy with hy | hy
    · exact k1 y hy
    · exact ⟨j, b, List.mem_singleton.mp hy⟩
theorem AtL.col (X : AtL layers i ways l) (L : Layered layers) : Col (below (mdl layers) l.2) (lvNext (mdl layers) l).2 := by
  show Col _ (nextLevel _ _ _)
  rw [nextLevel_eq]
  have := Col.fold (seen := seenAfter l.1 l.2) (C := below (mdl layers) l.2) (C₀ := []) (rs := []) ⟨List.nodup_nil, (fun x m => by cases m), (fun r m => by cases m), (fun r m => by cases m)⟩ fun x m => ?_
  · exact this
  · obtain ⟨⟨row', e', hp'⟩, -⟩ := X.belowR L m
    refine valA_keys fun h => ?_
    rcases seenAfter_keys h with h | ⟨r, hr, e⟩
    · obtain ⟨j, row, hj, e1, h1⟩ := X.seen _ h
      exact L.apart (by lia) e1 e' h1 hp'
    · obtain ⟨row, e1, h1⟩ := X.inn r hr
      rw [e] at h1
      exact L.apart (Nat.lt_succ_self i) e1 e' h1 hp'
theorem AtL.step (X : AtL layers i ways l) (L : Layered layers) : AtL layers (i + 1) (ways.flatMap (wayLater (mdl layers))) (lvNext (mdl layers) l) := by
  have K := X.col L
  refine ⟨X.rel.next K, ?_, ?_, ?_, ?_⟩
  · intro r hr
    obtain ⟨x, hx, e1, _⟩ := K.frm r hr
    rw [← e1]; exact (X.belowR L hx).1
  · intro x hx
    rcases seenAfter_keys hx with h | ⟨r, hr, rfl⟩
    · obtain ⟨j, row, hj, e1, h1⟩ := X.seen _ h
      exact ⟨j, row, by lia, e1, h1⟩
    · obtain ⟨row, e1, h1⟩ := X.inn r hr
      exact ⟨i, row, Nat.lt_succ_self i, e1, h1⟩
  · intro r hr
    obtain ⟨x, hx, _, e2⟩ := K.frm r hr
    rw [← e2]; exact (X.belowR L hx).2
  · intro w' m
    obtain ⟨w, hw, hm⟩ := List.mem_flatMap.mp m
    obtain ⟨j, b, e⟩ := later_steps w' hm
    rw [e, List.length_append, X.wsteps w hw]; rfl
theorem AtL.all (L : Layered layers) : ∀ i, AtL layers i (wy (mdl layers) i) (lvl (mdl layers) "m.A0" i)
  | 0 => by
    refine ⟨⟨by simp [lvl], ?_, ?_, ?_⟩, ?_, ?_, ?_, ?_⟩
    · intro w m
      rw [List.mem_singleton.mp m]; exact ⟨⟨"m.A0", [], false⟩, List.mem_singleton.mpr rfl, rfl⟩
    · intro r m _
      rw [List.mem_singleton.mp m]
      unfold onW wy ways0 wayR; simp
    · intro r m h
      rw [List.mem_singleton.mp m] at h; cases h
    · intro r m
      rw [List.mem_singleton.mp m]; exact L.top
    · intro x m; cases m
    · intro r m
      rw [List.mem_singleton.mp m]
      exact ⟨(fun y h => by cases h), rfl⟩
    · intro w m
      rw [List.mem_singleton.mp m]; rfl
  | i + 1 => (AtL.all L i).step L
theorem AtL.ne (X : AtL layers i ways l) (L : Layered layers) (h : i + 1 < layers.length) (n : l.2 ≠ []) : (lvNext (mdl layers) l).2 ≠ [] := by
  obtain ⟨r, hr⟩ := List.exists_mem_of_ne_nil _ n
  obtain ⟨row, e, hp⟩ := X.inn r hr
  obtain ⟨s, hs, -, h1, -⟩ := L.at_ e hp
  have := L.goes i row e h _ hs
  obtain ⟨q, hq⟩ := List.exists_mem_of_ne_nil _ this
  rw [← later_paths (st := r.steps) (i := 0)] at hq
  obtain ⟨w, hw, -⟩ := List.mem_map.mp hq
  obtain ⟨r', hr', -⟩ := (X.col L).cov (mark r.tw w) (List.mem_flatMap.mpr ⟨r, hr, List.mem_map.mpr ⟨w, by unfold wayLater wayR; rw [h1]; exact hw, rfl⟩⟩)
  exact List.ne_nil_of_mem hr'
theorem lvl_ne (L : Layered layers) : ∀ i, i < layers.length → (lvl (mdl layers) "m.A0" i).2 ≠ []
  | 0, _ => by simp [lvl]
  | i + 1, h => (AtL.all L i).ne L h (lvl_ne L i (by lia))
theorem AtL.few (X : AtL layers i ways l) (L : Layered layers) : l.2.length ≤ 2 := by
  cases hl : l.2 with
  | nil => exact Nat.zero_le _
  | cons r rs =>
    rw [← hl]
    obtain ⟨row, e, hp⟩ := X.inn r (by rw [hl]; exact .head _)
    have := nodup_le (l := l.2.map (·.path)) (B := keys row) X.rel.nd fun x m => by
      obtain ⟨r', hr', rfl⟩ := List.mem_map.mp m
      obtain ⟨row', e', hp'⟩ := X.inn r' hr'
      rw [e] at e'; cases e'; exact hp'
    rw [List.length_map, List.length_map] at this
    exact Nat.le_trans this (L.rows row (List.mem_of_getElem? e))
theorem seen_len (L : Layered layers) : ∀ i, (lvl (mdl layers) "m.A0" i).1.length ≤ 2 * i
  | 0 => Nat.le_refl _
  | i + 1 => by
    have h := seen_len L i
    have h2 := (AtL.all L i).few L
    have h3 := @seenAfter_le (lvl (mdl layers) "m.A0" i).2 (lvl (mdl layers) "m.A0" i).1
    show (seenAfter _ _).length ≤ _
    lia
theorem Layered.lv (L : Layered layers) : LvOk (mdl layers) "m.A0" layers.length where
  ends := by
    cases hl : (lvl (mdl layers) "m.A0" layers.length).2 with
    | nil => rfl
    | cons r rs =>
      obtain ⟨row, e, _⟩ := (AtL.all L layers.length).inn r (by rw [hl]; exact .head _)
      rw [List.getElem?_eq_none (Nat.le_refl _)] at e; cases e
  goes := lvl_ne L
  knows := fun i _ r hr => by
    obtain ⟨row, e, hp⟩ := (AtL.all L i).inn r hr
    obtain ⟨s, hs, h0, -, -⟩ := L.at_ e hp
    exact ⟨s, h0, Nat.le_trans (L.fields row (List.mem_of_getElem? e) _ hs).1 (by decide)⟩
  short := fun i h r hr => by
    have := ((AtL.all L i).steps r hr).2
    have := L.size
    lia
  few := fun i _ => Nat.le_trans ((AtL.all L i).few L) (by decide)
  seen := fun i h => by
    have := seen_len L i
    have := L.size
    lia
end
/-- what the members of the structs are -/
structure Mems (layers : List SRow) : Prop where
  nd : ∀ row ∈ layers, ∀ ps ∈ row, (ps.2.fields.map Fld.name).Nodup
  ms : ∀ row ∈ layers, ∀ ps ∈ row, ∀ m ∈ ps.2.mths, m.1 ∉ ps.2.fields.map Fld.name ∧ m.2.func = lawFuncA ∧ m.1 ∈ namesB ∧ ∃ key, m.2.key = .str key ∧ PyData.strOk key = true
  us : ∀ row ∈ layers, ∀ ps ∈ row, ("_" : Str) ∉ ps.2.fields.map Fld.name
  ty : ∀ row ∈ layers, ∀ ps ∈ row, ∀ f ∈ ps.2.fields, Dt f.ty 50
theorem fieldsFound_none {st : List AV} {name : Str} : ∀ {fs : List Fld} {i : Nat}, name ∉ fs.map Fld.name → fieldsFound st name fs i = []
  | [], _, _ => rfl
  | f :: fs, i, h => by
    rw [List.map_cons, List.mem_cons, not_or] at h
    unfold fieldsFound
    rw [if_neg fun e => h.1 e.symm, fieldsFound_none h.2]; rfl
theorem fieldsFound_at {st : List AV} {name : Str} : ∀ {fs : List Fld} {i : Nat}, (fs.map Fld.name).Nodup → fieldsFound st name fs i = (fieldAt st name fs i).toList
  | [], _, _ => rfl
  | f :: fs, i, h => by
    rw [List.map_cons, List.nodup_cons] at h
    unfold fieldsFound fieldAt
    by_cases z : f.name = name
    · rw [if_pos z, if_pos z, fieldsFound_none (by rw [← z]; exact h.1)]; rfl
    · rw [if_neg z, if_neg z, fieldsFound_at h.2]; rfl
theorem methOf_mem {s : Strct} {name : Str} {m : Mth} (h : methOf s name = some m) : (name, m) ∈ s.mths := by
  unfold methOf at h
  obtain ⟨p, e, rfl⟩ := Option.map_eq_some_iff.mp h
  have h1 := List.find?_some e
  have h2 : p.1 = name := of_decide_eq_true h1
  rw [← h2]
  exact List.mem_of_find?_eq_some e
theorem wayFound_mem {s : Strct} {st : List AV} {name p : Str} {tw : Bool} (nd : (s.fields.map Fld.name).Nodup) (ms : ∀ m ∈ s.mths, m.1 ∉ s.fields.map Fld.name ∧ m.2.func = lawFuncA) :
    methFound s st name ++ fieldsFound st name s.fields 0 = memberAt s ⟨p, st, tw⟩ name := by
  unfold methFound memberAt
  cases e : methOf s name with
  | some m =>
    obtain ⟨h1, h2⟩ := ms _ (methOf_mem e)
    dsimp only
    rw [fieldsFound_none h1, List.append_nil]
    unfold methAv
    rw [h2]
  | none =>
    dsimp only
    rw [List.nil_append, fieldsFound_at nd]
section
variable {layers : List SRow}
theorem wy_row (L : Layered layers) {i : Nat} {row : SRow} (e : layers[i]? = some row) {w : Way} (m : w ∈ wy (mdl layers) i) : w.1 ∈ keys row := by
  obtain ⟨r, hr, e2⟩ := (AtL.all L i).rel.cov w m
  obtain ⟨row', e', hp⟩ := (AtL.all L i).inn r hr
  rw [e] at e'; cases e'
  rw [← e2]; exact hp
theorem row_later (L : Layered layers) {i : Nat} {row : SRow} (e : layers[i]? = some row) : rowLater row (wy (mdl layers) i) = wy (mdl layers) (i + 1) := by
  show List.flatMap _ _ = List.flatMap _ _
  rw [List.flatMap_def, List.flatMap_def]
  congr 1
  refine List.map_congr_left fun w m => ?_
  obtain ⟨s, hs, -, h1, h2⟩ := L.at_ e (wy_row L e m)
  unfold wayLater
  rw [h1, h2]
theorem row_found (L : Layered layers) (E : Mems layers) {name : Str} {i : Nat} {row : SRow} (e : layers[i]? = some row) : rowFound row name (wy (mdl layers) i) = (wy (mdl layers) i).flatMap (memW (mdl layers) name) := by
  unfold rowFound
  rw [List.flatMap_def, List.flatMap_def]
  congr 1
  refine List.map_congr_left fun w m => ?_
  obtain ⟨s, hs, -, h1, h2⟩ := L.at_ e (wy_row L e m)
  have hm := List.mem_of_getElem? e
  unfold wayFound memW
  rw [h1, h2]
  exact wayFound_mem (E.nd row hm _ hs) fun m' k => ⟨(E.ms row hm _ hs m' k).1, (E.ms row hm _ hs m' k).2.1⟩
theorem findOut_out {M : Mdl} {name : Str} {n : Nat} {l : Lv} : findOut M name (n + 1) l = match outOf (foundAt M name l.2) with
    | .none => findOut M name n (lvNext M l)
    | o => o := by
  rw [findOut_cons]
  match foundAt M name l.2 with
  | [] => rfl
  | [a] => rfl
  | a :: b :: l => rfl
theorem foundSpec_out {name : Str} {row : SRow} {rest : List SRow} {ways : List Way} : foundSpec name (row :: rest) ways = match outOf (rowFound row name ways) with
    | .none => foundSpec name rest (rowLater row ways)
    | o => o.told := by
  rw [foundSpec]
  match rowFound row name ways with
  | [] => rfl
  | [a] => rfl
  | a :: b :: l => rfl
theorem spec_found (L : Layered layers) (E : Mems layers) {name : Str} : ∀ n i, i + n = layers.length → foundSpec name (layers.drop i) (wy (mdl layers) i) = (findOut (mdl layers) name n (lvl (mdl layers) "m.A0" i)).told
  | 0, i, h => by
    rw [List.drop_eq_nil_of_le (by lia)]; rfl
  | n + 1, i, h => by
    have hi : i < layers.length := by lia
    have e : layers[i]? = some layers[i] := List.getElem?_eq_getElem hi
    rw [List.drop_eq_getElem_cons hi, foundSpec_out, findOut_out, row_found L E e, row_later L e, (AtL.all L i).rel.out, spec_found L E n (i + 1) (by lia)]
    cases outOf (List.flatMap (memW (mdl layers) name) (wy (mdl layers) i)) with
    | none => rfl
    | one a => rfl
    | two => rfl
theorem wy_len (L : Layered layers) : ∀ i, i ≤ layers.length → (wy (mdl layers) i).length ≤ 2 ^ i
  | 0, _ => Nat.le_refl _
  | i + 1, h => by
    have ih := wy_len L i (by lia)
    have hi : i < layers.length := by lia
    have e : layers[i]? = some layers[i] := List.getElem?_eq_getElem hi
    have key : ∀ l : List Way, (∀ w ∈ l, w ∈ wy (mdl layers) i) → (l.flatMap (wayLater (mdl layers))).length ≤ l.length * 2 := by
      intro l
      induction l with
      | nil => intro _; exact Nat.le_refl _
      | cons w l ih =>
        intro hl
        have h1 := ih fun x m => hl x (.tail _ m)
        obtain ⟨s, hs, -, h2, -⟩ := L.at_ e (wy_row L e (hl w (.head _)))
        have h3 := (L.fields _ (List.mem_of_getElem? e) _ hs).2
        have h4 : (wayLater (mdl layers) w).length ≤ 2 := by
          unfold wayLater
          rw [h2, ← List.length_map (f := (·.1)), later_paths]; exact h3
        rw [List.flatMap_cons, List.length_append, List.length_cons]; lia
    have := key _ fun w m => m
    show (List.flatMap _ _).length ≤ _
    rw [Nat.pow_succ]; lia
theorem ways_ok (L : Layered layers) (hz : layers.length ≤ 6) : ∀ n i, i + n = layers.length → WaysOk (layers.drop i) (wy (mdl layers) i)
  | 0, i, h => by
    rw [List.drop_eq_nil_of_le (by lia)]; trivial
  | n + 1, i, h => by
    have hi : i < layers.length := by lia
    have e : layers[i]? = some layers[i] := List.getElem?_eq_getElem hi
    have hm := List.mem_of_getElem? e
    rw [List.drop_eq_getElem_cons hi]
    refine ⟨fun w m => ?_, ?_, L.rowNodup hm, Nat.le_trans (L.rows _ hm) (by decide), fun ps m => Nat.le_trans (L.fields _ hm ps m).1 (by decide), ?_⟩
    · obtain ⟨s, hs, -, -, -⟩ := L.at_ e (wy_row L e m)
      have := (AtL.all L i).wsteps w m
      exact ⟨⟨s, L.atRow hm hs⟩, by lia⟩
    · have h1 := wy_len L i (by lia)
      have h2 : 2 ^ i ≤ 2 ^ 6 := Nat.pow_le_pow_right (by decide) (by lia)
      exact Nat.le_trans h1 (Nat.le_trans h2 (by decide))
    · rw [row_later L e]; exact ways_ok L hz n (i + 1) (by lia)
theorem outOf_one {l : List AV} {a : AV} (h : outOf l = .one a) : l = [a] := by
  match l, h with
  | [b], h => injection h with h; rw [h]
  | [], h => cases h
  | b :: c :: l, h => cases h
theorem found_in {M : Mdl} {p name : Str} {a : AV} : ∀ n i, findOut M name n (lvl M p i) = .one a → ∃ j r, i ≤ j ∧ j < i + n ∧ r ∈ (lvl M p j).2 ∧ a ∈ memberAt (strOf M r.path) r name
  | 0, i, h => by cases h
  | n + 1, i, h => by
    rw [findOut_out] at h
    cases e : outOf (foundAt M name (lvl M p i).2) with
    | none =>
      rw [e] at h
      obtain ⟨j, r, h1, h2, h3⟩ := found_in n (i + 1) h
      exact ⟨j, r, by lia, by lia, h3⟩
    | one b =>
      rw [e] at h
      have : b = a := by injection h
      subst this
      have hl := outOf_one e
      have : b ∈ foundAt M name (lvl M p i).2 := by rw [hl]; exact .head _
      obtain ⟨r, hr, hb⟩ := List.mem_flatMap.mp this
      refine ⟨i, r, Nat.le_refl _, by lia, hr, ?_⟩
      unfold foundOf at hb
      split at hb
      · rcases List.mem_append.mp hb with hb | hb <;> exact hb
      · exact hb
    | two => rw [e] at h; cases h
theorem fieldAt_is {st : List AV} {name : Str} {a : AV} : ∀ {fs : List Fld} {i : Nat}, fieldAt st name fs i = some a → ∃ f ∈ fs, ∃ j : Int, a = .tup [.str "field", .tup (st ++ [.tup [.int j, .bool false]]), f.ty] ∧ f.name = name
  | [], _, h => by cases h
  | f :: fs, i, h => by
    unfold fieldAt at h
    split at h
    · rename_i z
      cases h
      exact ⟨f, .head _, i, rfl, z⟩
    · obtain ⟨g, m, j, e, z⟩ := fieldAt_is h
      exact ⟨g, .tail _ m, j, e, z⟩
theorem member_in {s : Strct} {r : Rch} {name : Str} {a : AV} (h : a ∈ memberAt s r name) : (∃ m, (name, m) ∈ s.mths ∧ a = methAv r.steps m) ∨ ∃ f ∈ s.fields, ∃ j : Int, a = .tup [.str "field", .tup (r.steps ++ [.tup [.int j, .bool false]]), f.ty] ∧ f.name = name := by
  unfold memberAt at h
  cases e : methOf s name with
  | some m =>
    rw [e] at h
    exact .inl ⟨m, methOf_mem e, List.mem_singleton.mp h⟩
  | none =>
    rw [e] at h
    dsimp only at h
    exact .inr (fieldAt_is (by simpa using h))
theorem found_is (L : Layered layers) (E : Mems layers) {name : Str} {n i : Nat} {a : AV} (h : findOut (mdl layers) name n (lvl (mdl layers) "m.A0" i) = .one a) :
    ∃ j r, i ≤ j ∧ j < i + n ∧ r ∈ (lvl (mdl layers) "m.A0" j).2 ∧ StepsOk r.steps ∧ r.steps.length ≤ 30 ∧ ((∃ m, (name, m) ∈ (strOf (mdl layers) r.path).mths ∧ a = methAv r.steps m ∧ m.func = lawFuncA ∧ ∃ key, m.key = .str key ∧ PyData.strOk key = true) ∨ ∃ f : Fld, ∃ k : Int, a = .tup [.str "field", .tup (r.steps ++ [.tup [.int k, .bool false]]), f.ty] ∧ Dt f.ty 50) := by
  obtain ⟨j, r, h1, h2, hr, ha⟩ := found_in n i h
  obtain ⟨row, e, hp⟩ := (AtL.all L j).inn r hr
  obtain ⟨s, hs, -, h3, -⟩ := L.at_ e hp
  have hm := List.mem_of_getElem? e
  have hj := (List.getElem?_eq_some_iff.mp e).1
  obtain ⟨k1, k2⟩ := (AtL.all L j).steps r hr
  refine ⟨j, r, h1, h2, hr, k1, by have := L.size; lia, ?_⟩
  rw [h3] at ha ⊢
  rcases member_in ha with ⟨m, h4, h5⟩ | ⟨f, hf, k, h5, -⟩
  · obtain ⟨-, g1, -, g2⟩ := E.ms row hm _ hs _ h4
    exact .inl ⟨m, h4, h5, g1, g2⟩
  · exact .inr ⟨f, k, h5, E.ty row hm _ hs f hf⟩
theorem names_keep {M : Mdl} {x : Str} : ∀ {rs : List Rch} {D : List (Str × AV)}, x ∈ D.map (·.1) → x ∈ (namesLv M D rs).map (·.1)
  | [], _, h => h
  | r :: rs, D, h => names_keep (rs := rs) (add_keep h)
where
  add_keep {x : Str} : ∀ {ms : List (Str × Mth)} {D : List (Str × AV)}, x ∈ D.map (·.1) → x ∈ (addNames D ms).map (·.1)
  | [], _, h => h
  | m :: ms, D, h => add_keep (ms := ms) (by
      rw [storeA_keys]
      split
      · exact h
      · exact List.mem_append_left _ h)
theorem add_in {m : Str × Mth} : ∀ {ms : List (Str × Mth)} {D : List (Str × AV)}, m ∈ ms → m.1 ∈ (addNames D ms).map (·.1)
  | m' :: ms, D, h => by
    rcases List.mem_cons.mp h with rfl | h
    · refine names_keep.add_keep (ms := ms) (D := storeA D m.1 (.bool true)) ?_
      rw [storeA_keys]
      split
      · rename_i z; exact z
      · exact List.mem_append_right _ (List.mem_singleton.mpr rfl)
    · exact add_in (ms := ms) h
theorem names_in {M : Mdl} {m : Str × Mth} {r : Rch} : ∀ {rs : List Rch} {D : List (Str × AV)}, r ∈ rs → m ∈ (strOf M r.path).mths → m.1 ∈ (namesLv M D rs).map (·.1)
  | r' :: rs, D, h, k => by
    rcases List.mem_cons.mp h with rfl | h
    · exact names_keep (rs := rs) (add_in k)
    · exact names_in (rs := rs) h k
theorem from_keep {M : Mdl} {x : Str} : ∀ {n : Nat} {l : Lv} {D : List (Str × AV)}, x ∈ D.map (·.1) → x ∈ (namesFrom M n l D).map (·.1)
  | 0, _, _, h => h
  | n + 1, l, D, h => from_keep (n := n) (names_keep h)
theorem from_in {M : Mdl} {p : Str} {m : Str × Mth} {r : Rch} {j : Nat} : ∀ {n i : Nat} {D : List (Str × AV)}, i ≤ j → j < i + n → r ∈ (lvl M p j).2 → m ∈ (strOf M r.path).mths → m.1 ∈ (namesFrom M n (lvl M p i) D).map (·.1)
  | 0, i, _, h1, h2, _, _ => by lia
  | n + 1, i, D, h1, h2, h3, h4 => by
    by_cases z : i = j
    · subst z; exact from_keep (n := n) (names_in h3 h4)
    · exact from_in (n := n) (i := i + 1) (by lia) (by lia) h3 h4
theorem us_found (L : Layered layers) (E : Mems layers) : ∀ n i, i + n = layers.length → findOut (mdl layers) "_" n (lvl (mdl layers) "m.A0" i) = .none
  | 0, _, _ => rfl
  | n + 1, i, h => by
    have : foundAt (mdl layers) "_" (lvl (mdl layers) "m.A0" i).2 = [] := by
      refine List.flatMap_eq_nil_iff.mpr fun r hr => ?_
      obtain ⟨row, e, hp⟩ := (AtL.all L i).inn r hr
      obtain ⟨s, hs, -, h3, -⟩ := L.at_ e hp
      have hm := List.mem_of_getElem? e
      have key : memberAt (strOf (mdl layers) r.path) r "_" = [] := by
        refine List.eq_nil_iff_forall_not_mem.mpr fun a ha => ?_
        rw [h3] at ha
        rcases member_in ha with ⟨m, h4, h5⟩ | ⟨f, hf, k, h5, h6⟩
        · exact absurd (E.ms row hm _ hs _ h4).2.2.1 (show ("_" : Str) ∉ namesB by decide)
        · exact E.us row hm _ hs (h6 ▸ List.mem_map.mpr ⟨f, hf, rfl⟩)
      unfold foundOf
      rw [key]; split <;> rfl
    rw [findOut_out, this]
    exact us_found L E n (i + 1) (by lia)
theorem find_spec (L : Layered layers) (E : Mems layers) (name : Str) : (findAt (mdl layers) "m.A0" name layers.length).told = foundSpec name layers ways0 := by
  have h := spec_found L E (name := name) layers.length 0 (Nat.zero_add _)
  rw [List.drop_zero] at h
  show _ = foundSpec name layers (wy (mdl layers) 0)
  rw [h]
  unfold findAt
  split
  · rename_i z
    rw [z, us_found L E _ 0 (Nat.zero_add _)]
  · rfl
theorem good_of (L : Layered layers) (E : Mems layers) (hz : layers.length ≤ 6) (hf : layers.flatten.length ≤ 1000) : Good layers layers.length where
  ways := by
    have := ways_ok L hz layers.length 0 (Nat.zero_add _)
    rw [List.drop_zero] at this
    exact this
  nodup := L.nodup
  few := hf
  small := fun ps m => by
    obtain ⟨row, h1, h2⟩ := List.mem_flatten.mp m
    exact Nat.le_trans (L.fields row h1 ps h2).1 (by decide)
  lv := L.lv
  top := by
    obtain ⟨row, e, hp⟩ := L.top
    obtain ⟨s, -, h, -⟩ := L.at_ e hp
    exact ⟨s, h⟩
  same := fun n _ => find_spec L E n
  ones := fun n _ a h => by
    unfold findAt at h
    split at h
    · cases h
    · obtain ⟨j, r, -, -, -, k1, k2, ⟨m, -, h5, g1, key, g2, g3⟩ | ⟨f, k, h5, h6⟩⟩ := found_is L E h
      · exact .inr ⟨r.steps, m, key, h5, k1, by lia, g1, g2, g3⟩
      · refine .inl ⟨_, _, h5, ?_⟩
        rw [h5]
        refine Dt.mono (Dt.tup (n := 50) fun b hb => ?_) (by decide)
        simp only [List.mem_cons, List.mem_nil_iff, or_false] at hb
        rcases hb with rfl | rfl | rfl
        · exact .str (by decide +kernel) _
        · refine Dt.mono (n := 2) (Dt.steps (st := r.steps ++ [.tup [.int k, .bool false]]) fun y hy => ?_) (by decide)
          rcases List.mem_append.mp hy with hy | hy
          · exact k1 y hy
          · exact ⟨k, false, List.mem_singleton.mp hy⟩
        · exact h6
  meths := fun i _ r hr m hm' => by
    obtain ⟨row, e, hp⟩ := (AtL.all L i).inn r hr
    obtain ⟨s, hs, -, h3, -⟩ := L.at_ e hp
    rw [h3] at hm'
    exact (E.ms row (List.mem_of_getElem? e) _ hs m hm').2.2.1
  there := fun n _ pt h => by
    unfold findAt at h
    split at h
    · cases h
    · cases e : findOut (mdl layers) n layers.length (lvl (mdl layers) "m.A0" 0) with
      | none => rw [e] at h; cases h
      | two => rw [e] at h; cases h
      | one a =>
        rw [e] at h
        obtain ⟨j, r, h1, h2, hr, k1, k2, ⟨m, hm, h5, -⟩ | ⟨f, k, h5, h6⟩⟩ := found_is L E e
        · exact from_in h1 h2 hr hm
        · rw [h5] at h
          exfalso
          revert h
          show (entryOf pt (.tup [.str "field", .tup (r.steps ++ [.tup [.int k, .bool false]]), f.ty])).isSome = true → False
          unfold entryOf
          simp
end
noncomputable def pathsOf (n : Nat) : List Str := (List.range n).flatMap fun d => [pthS "A" d, pthS "B" d]
theorem paths_nodup : (pathsOf 26).Nodup := by decide +kernel
theorem pathsOf_le {n : Nat} (h : n ≤ 26) : (pathsOf n).Nodup := by
  have e1 : List.range n = (List.range 26).take n := by rw [List.take_range, Nat.min_eq_left h]
  have e2 : pathsOf 26 = pathsOf n ++ ((List.range 26).drop n).flatMap fun d => [pthS "A" d, pthS "B" d] := by
    unfold pathsOf
    rw [e1, ← List.flatMap_append, List.take_append_drop]
  exact List.Nodup.sublist (by rw [e2]; exact List.sublist_append_left _ _) paths_nodup
/-- rows of two -/
noncomputable def TwoRows (layers : List SRow) : Prop := ∀ (d : Nat) (row : SRow), layers[d]? = some row → keys row = [pthS "A" d, pthS "B" d]
theorem TwoRows.flat {layers : List SRow} (T : TwoRows layers) : layers.flatten.map (·.1) = pathsOf layers.length := by
  rw [List.map_flatten, pathsOf, List.flatMap_def]
  congr 1
  refine List.ext_getElem? fun d => ?_
  rw [List.getElem?_map, List.getElem?_map]
  by_cases h : d < layers.length
  · have e : layers[d]? = some layers[d] := List.getElem?_eq_getElem h
    rw [e, List.getElem?_range h, Option.map_some, Option.map_some]
    congr 1
    exact T d _ e
  · rw [List.getElem?_eq_none (by omega), List.getElem?_eq_none (by simp; omega)]; rfl
theorem TwoRows.nodup {layers : List SRow} (T : TwoRows layers) (h : layers.length ≤ 26) : (layers.flatten.map (·.1)).Nodup := by
  rw [T.flat]; exact pathsOf_le h
theorem letters_E : ∀ x ∈ optE, ∀ L ∈ letters x, L = "A" ∨ L = "B" := by decide +kernel
theorem letters_ne : ∀ x ∈ optE, letters x ≠ [] := by decide +kernel
theorem letters_no : letters "" = [] := by decide +kernel
noncomputable abbrev namesX (f0 : List Str) (x : Str) (d : Nat) : List Str := f0 ++ (letters x).map (· ++ ds (d + 1))
theorem namesX_ok : ∀ f0 ∈ optF, ∀ x ∈ ("" : Str) :: optE, ∀ d, d < 4 → (namesX f0 x d).Nodup ∧ ("_" : Str) ∉ namesX f0 x d := by decide +kernel
theorem optM_B : ∀ ns ∈ optM, ∀ n ∈ ns, n ∈ namesB := by decide +kernel
theorem key_ok : ∀ L ∈ (["A", "B"] : List Str), ∀ d, d < 4 → ∀ n ∈ namesB, PyData.strOk (pthS L d ++ "." ++ n) = true := by decide +kernel
theorem path_ok : ∀ L ∈ (["A", "B"] : List Str), ∀ d, d < 5 → PyData.strOk (pthS L d) = true := by decide +kernel
theorem namesF_str : ∀ f0 ∈ optF, f0.length ≤ 2 := by decide
theorem embP_plain {l : List Str} {l' : List Fld} : embP (l.map plainF ++ l') = embP l' := by
  induction l with
  | nil => rfl
  | cons x l ih => exact ih
theorem embP_embF {d : Nat} : ∀ {es : List (Str × Bool)}, embP (es.map (embF d)) = (es.map (·.1)).map fun L => pthS L (d + 1)
  | [] => rfl
  | e :: es => by
    have := embP_embF (d := d) (es := es)
    show pthS e.1 (d + 1) :: embP (es.map (embF d)) = _
    rw [this]; rfl
section
variable {many d : Nat} {path : Str} {s : Strct}
theorem StOk.emb (X : StOk many d path s) : (d + 1 < many → embP s.fields ≠ []) ∧ (embP s.fields).length ≤ 2 ∧ s.fields.length ≤ 4 ∧ ∀ q ∈ embP s.fields, d + 1 < many ∧ (q = pthS "A" (d + 1) ∨ q = pthS "B" (d + 1)) := by
  obtain ⟨f0, es, ns, ms, rfl, hf, ⟨x, hx, hxx⟩, -, -, -⟩ := X
  have he : embP (f0.map plainF ++ es.map (embF d)) = (letters x).map fun L => pthS L (d + 1) := by
    rw [embP_plain, embP_embF, hx]
  have hl : (letters x).length ≤ 2 := by
    split at hxx
    · exact optE_le x hxx
    · rw [hxx, letters_no]; exact Nat.zero_le _
  have hes : es.length = (letters x).length := by rw [← hx, List.length_map]
  refine ⟨fun h => ?_, ?_, ?_, fun q hq => ?_⟩
  · rw [if_pos h] at hxx
    dsimp only
    rw [he]
    exact fun e => letters_ne x hxx (List.map_eq_nil_iff.mp e)
  · dsimp only
    rw [he, List.length_map]; exact hl
  · have := namesF_str f0 hf
    simp only [List.length_append, List.length_map]; omega
  · dsimp only at hq
    rw [he] at hq
    obtain ⟨L, hL, rfl⟩ := List.mem_map.mp hq
    split at hxx
    · rename_i h
      refine ⟨h, ?_⟩
      rcases letters_E x hxx L hL with rfl | rfl
      · exact .inl rfl
      · exact .inr rfl
    · rw [hxx, letters_no] at hL; cases hL
theorem StOk.mem (X : StOk many d path s) (hm : many ≤ 4) (hd : d < many) (hp : path = pthS "A" d ∨ path = pthS "B" d) : (s.fields.map Fld.name).Nodup ∧ ("_" : Str) ∉ s.fields.map Fld.name ∧
    (∀ m ∈ s.mths, m.1 ∉ s.fields.map Fld.name ∧ m.2.func = lawFuncA ∧ m.1 ∈ namesB ∧ ∃ key, m.2.key = .str key ∧ PyData.strOk key = true) ∧ ∀ f ∈ s.fields, Dt f.ty 50 := by
  obtain ⟨f0, es, ns, ms, rfl, hf, ⟨x, hx, hxx⟩, hns, hsub, hms⟩ := X
  have hx2 : x ∈ ("" : Str) :: optE := by
    split at hxx
    · exact .tail _ hxx
    · rw [hxx]; exact .head _
  have hn : (f0.map plainF ++ es.map (embF d)).map Fld.name = namesX f0 x d := by
    rw [List.map_append, List.map_map, List.map_map, namesX, ← hx, List.map_map]
    congr 1
    exact (List.map_congr_left fun y _ => rfl).trans (List.map_id f0)
  obtain ⟨h1, h2⟩ := namesX_ok f0 hf x hx2 d (by omega)
  refine ⟨by dsimp only; rw [hn]; exact h1, by dsimp only; rw [hn]; exact h2, fun m hm' => ?_, fun f hf' => ?_⟩
  · obtain ⟨g1, g2, g3⟩ := hms m hm'
    have hb : m.1 ∈ namesB := optM_B ns hns _ (hsub.subset (List.mem_map.mpr ⟨m, hm', rfl⟩))
    refine ⟨g1, g2, hb, _, g3, ?_⟩
    rcases hp with rfl | rfl
    · exact key_ok "A" (.head _) d (by omega) _ hb
    · exact key_ok "B" (.tail _ (.head _)) d (by omega) _ hb
  · dsimp only at hf'
    rcases List.mem_append.mp hf' with h | h
    · obtain ⟨y, -, rfl⟩ := List.mem_map.mp h
      refine Dt.mono (Dt.tup (n := 0) fun a ha => ?_) (by decide)
      simp only [List.mem_cons, List.mem_nil_iff, or_false] at ha
      rcases ha with rfl | rfl <;> exact .str (by decide +kernel) _
    · obtain ⟨e, he, rfl⟩ := List.mem_map.mp h
      have hL : e.1 ∈ letters x := by rw [← hx]; exact List.mem_map.mpr ⟨e, he, rfl⟩
      have hpo : PyData.strOk (pthS e.1 (d + 1)) = true := by
        split at hxx
        · rcases letters_E x hxx _ hL with h | h
          · rw [h]; exact path_ok "A" (.head _) (d + 1) (by omega)
          · rw [h]; exact path_ok "B" (.tail _ (.head _)) (d + 1) (by omega)
        · rw [hxx, letters_no] at hL; cases hL
      refine Dt.mono (Dt.tup (n := 1) fun a ha => ?_) (by decide : 1 + 1 ≤ 50)
      simp only [List.mem_cons, List.mem_nil_iff, or_false] at ha
      rcases ha with rfl | rfl
      · cases e.2 <;> exact .str (by decide +kernel) _
      · cases e.2
        · exact .str hpo _
        · refine Dt.tup (n := 0) fun a ha => ?_
          simp only [List.mem_cons, List.mem_nil_iff, or_false] at ha
          rcases ha with rfl | rfl
          · exact .str (by decide +kernel) _
          · exact .str hpo _
end
theorem good_drawn (layers : List SRow) (X : DrawnOk layers) : ∃ N, Good layers N := by
  obtain ⟨many, hm, hlen, hrow⟩ := X
  have hm4 : many ≤ 4 := by omega
  have T : TwoRows layers := fun d row e => by
    obtain ⟨sA, sB, rfl, -, -⟩ := hrow d row e
    rfl
  have lt : ∀ {d : Nat} {row : SRow}, layers[d]? = some row → d < many := fun {d row} e => by
    have := (List.getElem?_eq_some_iff.mp e).1
    omega
  have st : ∀ {d : Nat} {row : SRow}, layers[d]? = some row → ∀ ps ∈ row, StOk many d ps.1 ps.2 ∧ (ps.1 = pthS "A" d ∨ ps.1 = pthS "B" d) := fun {d row} e ps m => by
    obtain ⟨sA, sB, rfl, hA, hB⟩ := hrow d row e
    rcases List.mem_cons.mp m with rfl | m
    · exact ⟨hA, .inl rfl⟩
    · rw [List.mem_singleton.mp m]; exact ⟨hB, .inr rfl⟩
  have two : ∀ row ∈ layers, row.length = 2 := fun row m => by
    obtain ⟨d, e⟩ := List.mem_iff_getElem?.mp m
    have := congrArg List.length (T d row e)
    simpa [keys] using this
  have L : Layered layers := {
    nodup := T.nodup (by omega)
    next := fun d row e ps m q hq => by
      obtain ⟨h1, h2⟩ := (st e ps m).1.emb.2.2.2 q hq
      have e2 : layers[d + 1]? = some layers[d + 1] := List.getElem?_eq_getElem (by omega)
      refine ⟨_, e2, ?_⟩
      rw [T _ _ e2]
      rcases h2 with rfl | rfl
      · exact .head _
      · exact .tail _ (.head _)
    goes := fun d row e h ps m => (st e ps m).1.emb.1 (by omega)
    size := by omega
    rows := fun row m => Nat.le_of_eq (two row m)
    fields := fun row m ps h => by
      obtain ⟨d, e⟩ := List.mem_iff_getElem?.mp m
      obtain ⟨-, h1, h2, -⟩ := (st e ps h).1.emb
      exact ⟨by omega, h1⟩
    top := by
      have e : layers[0]? = some layers[0] := List.getElem?_eq_getElem (by omega)
      refine ⟨_, e, ?_⟩
      rw [T _ _ e, show pthS "A" 0 = "m.A0" by decide +kernel]
      exact .head _ }
  have mm : ∀ row ∈ layers, ∀ ps ∈ row, (ps.2.fields.map Fld.name).Nodup ∧ ("_" : Str) ∉ ps.2.fields.map Fld.name ∧
    (∀ m ∈ ps.2.mths, m.1 ∉ ps.2.fields.map Fld.name ∧ m.2.func = lawFuncA ∧ m.1 ∈ namesB ∧ ∃ key, m.2.key = .str key ∧ PyData.strOk key = true) ∧ ∀ f ∈ ps.2.fields, Dt f.ty 50 := fun row m ps h => by
    obtain ⟨d, e⟩ := List.mem_iff_getElem?.mp m
    exact (st e ps h).1.mem hm4 (lt e) (st e ps h).2
  have E : Mems layers := {
    nd := fun row m ps h => (mm row m ps h).1
    us := fun row m ps h => (mm row m ps h).2.1
    ms := fun row m ps h => (mm row m ps h).2.2.1
    ty := fun row m ps h => (mm row m ps h).2.2.2 }
  refine ⟨_, good_of L E (by omega) ?_⟩
  have := congrArg List.length T.flat
  rw [List.length_map] at this
  rw [this, hlen]
  rcases hm with rfl | rfl <;> decide
theorem deep_get {d : Nat} {row : SRow} (e : deepLayers[d]? = some row) : d < 26 ∧ row = deepRow d := by
  unfold deepLayers at e
  rw [List.getElem?_map] at e
  obtain ⟨x, hx, rfl⟩ := Option.map_eq_some_iff.mp e
  have h : d < 26 := by have := (List.getElem?_eq_some_iff.mp hx).1; simpa using this
  rw [List.getElem?_range h] at hx
  cases hx; exact ⟨h, rfl⟩
theorem deep_at {d : Nat} (h : d < 26) : deepLayers[d]? = some (deepRow d) := by
  unfold deepLayers
  rw [List.getElem?_map, List.getElem?_range h]; rfl
theorem deep_len : deepLayers.length = 26 := by unfold deepLayers; simp
theorem deep_mem {d : Nat} {ps : Str × Strct} (m : ps ∈ deepRow d) : ps.2.fields = deepF d ∧ (ps = (pthS "A" d, ⟨deepF d, deepM d⟩) ∨ ps = (pthS "B" d, ⟨deepF d, []⟩)) := by
  unfold deepRow at m
  rcases List.mem_cons.mp m with rfl | m
  · exact ⟨rfl, .inl rfl⟩
  · rw [List.mem_singleton.mp m]; exact ⟨rfl, .inr rfl⟩
theorem deep_embP {d : Nat} : embP (deepF d) = if d < 25 then [pthS "A" (d + 1), pthS "B" (d + 1)] else [] := by
  unfold deepF
  split <;> rfl
theorem deep_two : TwoRows deepLayers := fun d row e => by
  obtain ⟨-, rfl⟩ := deep_get e
  rfl
theorem deep_layered : Layered deepLayers where
  nodup := deep_two.nodup (by rw [deep_len]; exact Nat.le_refl _)
  next := fun d row e ps m q hq => by
    obtain ⟨h, rfl⟩ := deep_get e
    rw [(deep_mem m).1, deep_embP] at hq
    split at hq
    · refine ⟨_, deep_at (by lia), ?_⟩
      exact hq
    · cases hq
  goes := fun d row e h ps m => by
    obtain ⟨-, rfl⟩ := deep_get e
    rw [deep_len] at h
    rw [(deep_mem m).1, deep_embP, if_pos (by lia)]
    simp
  size := by rw [deep_len]; decide
  rows := fun row m => by
    obtain ⟨d, e⟩ := List.mem_iff_getElem?.mp m
    obtain ⟨-, rfl⟩ := deep_get e
    exact Nat.le_refl _
  fields := fun row m ps h => by
    obtain ⟨d, e⟩ := List.mem_iff_getElem?.mp m
    obtain ⟨-, rfl⟩ := deep_get e
    rw [(deep_mem h).1, deep_embP]
    refine ⟨?_, ?_⟩
    · unfold deepF
      split <;> (simp only [List.length_cons, List.length_nil]; decide)
    · split
      · exact Nat.le_refl _
      · decide
  top := ⟨_, deep_at (by decide), by
    rw [show ("m.A0" : Str) = pthS "A" 0 by decide +kernel]
    exact .head _⟩
theorem deep_r {i : Nat} {r : Rch} (hr : r ∈ (lvl (mdl deepLayers) "m.A0" i).2) : i < 26 ∧ ((r.path = pthS "A" i ∧ strOf (mdl deepLayers) r.path = ⟨deepF i, deepM i⟩) ∨ (r.path = pthS "B" i ∧ strOf (mdl deepLayers) r.path = ⟨deepF i, []⟩)) := by
  obtain ⟨row, e, hp⟩ := (AtL.all deep_layered i).inn r hr
  obtain ⟨s, hs, -, h1, -⟩ := deep_layered.at_ e hp
  obtain ⟨h, rfl⟩ := deep_get e
  refine ⟨h, ?_⟩
  rcases (deep_mem hs).2 with z | z
  · injection z with z1 z2
    exact .inl ⟨z1, by rw [h1, z2]⟩
  · injection z with z1 z2
    exact .inr ⟨z1, by rw [h1, z2]⟩
theorem deep_mths {i : Nat} {r : Rch} (hr : r ∈ (lvl (mdl deepLayers) "m.A0" i).2) : ∀ m ∈ (strOf (mdl deepLayers) r.path).mths, m.1 = "M" ∧ i = 25 := by
  obtain ⟨h, ⟨-, e⟩ | ⟨-, e⟩⟩ := deep_r hr
  · rw [e]
    intro m hm
    unfold deepM at hm
    dsimp only at hm
    split at hm
    · rw [List.mem_singleton.mp hm]; exact ⟨rfl, ‹_›⟩
    · cases hm
  · rw [e]
    intro m hm; cases hm
theorem deep_fields {i : Nat} {r : Rch} (hr : r ∈ (lvl (mdl deepLayers) "m.A0" i).2) : (strOf (mdl deepLayers) r.path).fields = deepF i := by
  obtain ⟨h, ⟨-, e⟩ | ⟨-, e⟩⟩ := deep_r hr <;> rw [e]
theorem deep_names : ∀ i, i < 26 → ∀ f ∈ deepF i, f.name ≠ "w" ∧ f.name ≠ "M" ∧ (f.name = "f" → i = 25) := by
  have h : ∀ i, i < 26 → ∀ x ∈ (deepF i).map Fld.name, x ≠ "w" ∧ x ≠ "M" ∧ (x = "f" → i = 25) := by decide +kernel
  exact fun i hi f m => h i hi _ (List.mem_map.mpr ⟨f, m, rfl⟩)
theorem deep_nil {name : Str} {i : Nat} (h : ∀ r ∈ (lvl (mdl deepLayers) "m.A0" i).2, memberAt (strOf (mdl deepLayers) r.path) r name = []) : foundAt (mdl deepLayers) name (lvl (mdl deepLayers) "m.A0" i).2 = [] := by
  refine List.flatMap_eq_nil_iff.mpr fun r hr => ?_
  unfold foundOf
  rw [h r hr]; split <;> rfl
theorem deep_none {name : Str} {i : Nat} (hn : (name = "w" ∨ name = "f" ∨ name = "M") ∧ (i ≠ 25 ∨ name = "w")) : foundAt (mdl deepLayers) name (lvl (mdl deepLayers) "m.A0" i).2 = [] := by
  refine deep_nil fun r hr => List.eq_nil_iff_forall_not_mem.mpr fun a ha => ?_
  rcases member_in ha with ⟨m, h4, h5⟩ | ⟨f, hf, k, h5, h6⟩
  · obtain ⟨e, hi⟩ := deep_mths hr _ h4
    dsimp only at e
    subst e
    rcases hn.2 with h | h
    · exact h hi
    · exact absurd h (by decide)
  · rw [deep_fields hr] at hf
    obtain ⟨g1, g2, g3⟩ := deep_names i (deep_r hr).1 f hf
    rw [h6] at g1 g2 g3
    rcases hn.1 with h | h | h
    · exact g1 h
    · rcases hn.2 with h' | h'
      · exact h' (g3 h)
      · exact g1 h'
    · exact g2 h
theorem find_skip {M : Mdl} {p name : Str} {m : Nat} : ∀ n i, (∀ j, i ≤ j → j < i + n → foundAt M name (lvl M p j).2 = []) → findOut M name (n + m) (lvl M p i) = findOut M name m (lvl M p (i + n))
  | 0, i, _ => by rw [Nat.zero_add, Nat.add_zero]
  | n + 1, i, h => by
    rw [show n + 1 + m = n + m + 1 by lia, findOut_out, h i (Nat.le_refl _) (by lia)]
    have := find_skip (m := m) n (i + 1) fun j h1 h2 => h j (by lia) (by lia)
    rw [show i + (n + 1) = i + 1 + n by lia, ← this]
    rfl
/-- both types of a level are reached -/
theorem deep_both : ∀ i, i < 25 → (∃ r ∈ (lvl (mdl deepLayers) "m.A0" (i + 1)).2, r.path = pthS "A" (i + 1)) ∧ ∃ r ∈ (lvl (mdl deepLayers) "m.A0" (i + 1)).2, r.path = pthS "B" (i + 1) := by
  intro i hi
  have X := AtL.all deep_layered i
  have K := X.col deep_layered
  obtain ⟨r, hr⟩ := List.exists_mem_of_ne_nil _ (lvl_ne deep_layered i (by rw [deep_len]; lia))
  have key : ∀ q, q ∈ [pthS "A" (i + 1), pthS "B" (i + 1)] → ∃ r' ∈ (lvl (mdl deepLayers) "m.A0" (i + 1)).2, r'.path = q := by
    intro q hq
    have h2 : q ∈ embP (strOf (mdl deepLayers) r.path).fields := by
      rw [deep_fields hr, deep_embP, if_pos hi]; exact hq
    rw [← later_paths (st := r.steps) (i := 0)] at h2
    obtain ⟨w, hw, rfl⟩ := List.mem_map.mp h2
    exact K.cov (mark r.tw w) (List.mem_flatMap.mpr ⟨r, hr, List.mem_map.mpr ⟨w, hw, rfl⟩⟩)
  exact ⟨key _ (.head _), key _ (.tail _ (.head _))⟩
theorem deep_apart : ∀ i, i < 26 → pthS "A" i ≠ pthS "B" i := by decide +kernel
theorem deep_tw {i : Nat} (hi : i + 1 < 25) {r : Rch} (hr : r ∈ (lvl (mdl deepLayers) "m.A0" (i + 2)).2) : r.tw = true := by
  have X := AtL.all deep_layered (i + 1)
  have K := X.col deep_layered
  rcases K.one r hr with e | ⟨e, -⟩
  · exfalso
    rw [below_on] at e
    obtain ⟨r0, hr0, h1, h2⟩ := single_path X.rel.nd e
    obtain ⟨⟨rA, hA, eA⟩, ⟨rB, hB, eB⟩⟩ := deep_both i (by lia)
    have ne : ∀ r2 ∈ (lvl (mdl deepLayers) "m.A0" (i + 1)).2, (onW r.path (wayLater (mdl deepLayers) (wayR r2))).map (mark r2.tw) ≠ [] := by
      intro r2 h2 z
      have hl : (onW r.path (wayLater (mdl deepLayers) (wayR r2))).length = 0 := by rw [List.map_eq_nil_iff.mp z]; rfl
      rw [on_len] at hl
      unfold wayLater at hl
      rw [later_paths, show (wayR r2).1 = r2.path from rfl, deep_fields h2, deep_embP, if_pos hi] at hl
      have := List.eq_nil_of_length_eq_zero hl
      have hm : r.path ∈ [pthS "A" (i + 1 + 1), pthS "B" (i + 1 + 1)].filter fun x => decide (x = r.path) := by
        refine List.mem_filter.mpr ⟨?_, by simp⟩
        rcases (deep_r hr).2 with ⟨h, -⟩ | ⟨h, -⟩
        · rw [h]; exact .head _
        · rw [h]; exact .tail _ (.head _)
      rw [this] at hm; cases hm
    by_cases z : rA.path = r0.path
    · refine ne rB hB (h2 rB hB ?_)
      rw [← z, eA, eB]
      exact (deep_apart (i + 1) (by lia)).symm
    · exact ne rA hA (h2 rA hA z)
  · exact e
theorem found_of {M : Mdl} {name : Str} {rs : List Rch} {r : Rch} (h : r ∈ rs) : (foundOf M name r).length ≤ (foundAt M name rs).length := by
  obtain ⟨a, b, rfl⟩ := List.append_of_mem h
  unfold foundAt
  rw [List.flatMap_append, List.flatMap_cons]
  simp only [List.length_append]; lia
theorem deep_last {name : Str} (hn : name = "f" ∨ name = "M") : outOf (foundAt (mdl deepLayers) name (lvl (mdl deepLayers) "m.A0" 25).2) = .two := by
  obtain ⟨⟨rA, hA, eA⟩, -⟩ := deep_both 24 (by decide)
  have ht := deep_tw (i := 23) (by decide) hA
  refine outOf_two (Nat.le_trans ?_ (found_of hA))
  unfold foundOf
  rw [if_pos ht, List.length_append, memberAt_len]
  have : memN (strOf (mdl deepLayers) rA.path) name = 1 := by
    obtain ⟨-, ⟨-, e⟩ | ⟨e, -⟩⟩ := deep_r hA
    · rw [e]
      rcases hn with rfl | rfl <;> decide +kernel
    · rw [eA] at e
      exact absurd e (deep_apart 25 (by decide))
  lia
theorem deep_out {name : Str} (hn : name = "f" ∨ name = "M") : findOut (mdl deepLayers) name 26 (lvl (mdl deepLayers) "m.A0" 0) = .two := by
  have := find_skip (M := mdl deepLayers) (p := "m.A0") (name := name) (m := 1) 25 0 fun j h1 h2 => deep_none ⟨.inr hn, .inl (by lia)⟩
  rw [show (26 : Nat) = 25 + 1 from rfl, this, findOut_out, Nat.zero_add, deep_last hn]
theorem deep_ok : DeepOk where
  nodup := deep_layered.nodup
  size := by
    refine ⟨?_, fun ps m => ?_⟩
    · have := congrArg List.length deep_two.flat
      rw [List.length_map, deep_len] at this
      rw [this]; decide
    · obtain ⟨row, h1, h2⟩ := List.mem_flatten.mp m
      exact Nat.le_trans (deep_layered.fields row h1 ps h2).1 (by decide)
  lv := by
    have := deep_layered.lv
    rw [deep_len] at this
    exact this
  top := by
    obtain ⟨row, e, hp⟩ := deep_layered.top
    obtain ⟨s, -, h, -⟩ := deep_layered.at_ e hp
    exact ⟨s, h⟩
  w := by
    unfold findAt
    rw [if_neg (by decide)]
    have := find_skip (M := mdl deepLayers) (p := "m.A0") (name := "w") (m := 0) 26 0 fun j h1 h2 => deep_none ⟨.inl rfl, .inr rfl⟩
    exact this
  f := by
    unfold findAt
    rw [if_neg (by decide)]
    exact deep_out (.inl rfl)
  m := by
    unfold findAt
    rw [if_neg (by decide)]
    exact deep_out (.inr rfl)
  meths := fun i _ r hr m hm => by
    rw [(deep_mths hr m hm).1]; exact .head _
noncomputable def lawSt : Stmt := pw.main.body.getLast?.getD (.Pass default)
noncomputable def lawBody : List Stmt := match lawSt with
  | .FunctionDef _ _ b _ _ _ _ _ _ _ => b
  | _ => []
noncomputable def lawScope : Scope := match lawSt with
  | .FunctionDef _ _ _ _ _ _ sc _ _ _ => sc
  | _ => default
theorem two_paths {i : Nat} {a : AV} (ha : [AV.str "m.A1", AV.str "m.B1"][i]? = some a) : ∃ pp : Str, a = .str pp ∧ i < 2 ∧ doneS (i + 1) = (pp, smallB) :: doneS i ∧ ∀ ps ∈ doneS i, ps.1 ≠ pp := by
  match i, ha with
  | 0, ha => cases ha; exact ⟨_, rfl, by decide, rfl, by intro ps m; rw [List.mem_singleton.mp m]; decide⟩
  | 1, ha =>
    cases ha
    refine ⟨_, rfl, by decide, rfl, fun ps m => ?_⟩
    rcases List.mem_cons.mp m with rfl | m
    · decide
    · rw [List.mem_singleton.mp m]; decide
theorem two_done {i : Nat} (h : i < 2) : (doneS i).length ≤ 3 := by
  match i, h with
  | 0, _ => decide
  | 1, _ => decide
section
variable {c : Cfg} {H : AH}
set_option maxRecDepth 100000 in
set_option maxHeartbeats 4000000 in
theorem law_W {sl : Addr} {ns : List Int} {rest : List Frm} {F fa : Addr} {cd : Value} (hs : GL c sl (ns.map .int)) (hz : ns.length ≤ 63) :
    W c 29 rest (envOf "law" lawScope F fa cd) RF (execs lawBody (envOf "law" lawScope F fa cd)) (amZ ["script"] [.ref sl]) H fun f _ _ => f.out = .bool true := by
  have D₀ := deep_ok
  have P₀ := good_drawn
  conv in lawBody => whnf
  conv in (occs := *) lawScope => all_goals whnf
  · let J1 : JC := fun am H' => A3 (am "script" = some (.ref sl)) (am "leaf" = some (named "m.C")) (∃ bl, A3 (am "both" = some (.ref bl)) (H bl = none) (H' = upd H bl (.list (smallA.fields.map Fld.av))))
    with_reducible refine W_cut J1 ?_ ?_
    · with_reducible refine W_Assign_Swap ["leaf", "both"] ?ww ?hs ?hw ?hl
      case hs => kernel_rfl
      case hw => kernel_rfl
      case hl => kernel_rfl
      repeat walk_at "s"
      refine W_newList fun bl nbl => ?_
      repeat walk_at "s"
      refine ⟨_, rfl, rfl, ?_⟩
      repeat walk_at "s"
      exact ⟨rfl, rfl, rfl, bl, rfl, nbl, rfl⟩
    rintro am H0 ⟨m1, m2, bl, m3, nbl, rfl⟩
    have S0 : Sub H (upd H bl (.list (smallA.fields.map Fld.av))) := Sub.upd nbl
    have hbl : upd H bl (.list (smallA.fields.map Fld.av)) bl = some (.list (smallA.fields.map Fld.av)) := upd_same ..
    generalize upd H bl (.list (smallA.fields.map Fld.av)) = H0 at S0 hbl ⊢
    clear nbl
    repeat walk_at "s"
    refine c_mkWorld fun w wdx nd l0 F H₁ S₁ nw nwd nn h1 h2 h3 h4 hn hl => ?_
    repeat walk_at "s"
    have T : WSt H0 H₁ w wdx nd F [] := ⟨S₁, nn, h1, h2, l0, hn, by simpa using hl, fun _ m => by cases m⟩
    clear h1 h2 hn hl S₁ nw nwd l0
    refine W_Dict0 fun md nmd => ?_
    repeat walk_at "s"
    refine c_mkRow fun x dx hx hdx nx => ?_
    generalize hg : upd _ dx _ = H5
    have S5 : Sub (upd H₁ md (.dict [])) H5 := by rw [← hg]; exact sub_row (Sub.refl _) hx hdx nx
    have hx5 : H5 x = some (.inst 207 dx) := by rw [← hg, upd_ne nx, upd_same]
    have hdx5 : H5 dx = some (.idict [("path", .str "m.C"), ("package", .str "m"), ("underlying", under smallC), ("methods", .ref md)]) := by rw [← hg, upd_same]; rfl
    have hmd5 : H5 md = some (.dict smallC.dict) := S5 _ _ (upd_same ..)
    have T5 := (T.sub (Sub.upd nmd)).sub S5
    obtain ⟨l, hl, hll, -⟩ := T.l
    have hl5 := S5 _ _ (upd_old nmd hl)
    have nmn : md ≠ nd := ne1 nmd hl
    clear hg
    repeat walk_at "s"
    refine W_attr T5.w T5.d h3 (fun P => rfl) rfl ?_
    repeat walk_at "s"
    refine W_setItem_dict hl5 (by have : l.length ≤ 4 := by simpa using hll
                                  lia) ?_
    have T6 := T5.store (p := "m.C") (s := smallC) hl5 hx5 hdx5 hmd5 nmn (fun ps m => by cases m)
    generalize upd H5 nd _ = H6 at T6 ⊢
    clear T T5 hl5 hx5 hdx5 hmd5 nmn hl hll S5 hx hdx nx nmd H₁ H5 l x dx md
    repeat walk_at "s"
    let J2 : JF := fun as own i am H' => ∃ pl, A10 (as = [.str "m.A1", .str "m.B1"]) (own = some (pl, .list as)) (H6 pl = none) (am "script" = some (.ref sl)) (am "leaf" = some (named "m.C")) (am "both" = some (.ref bl)) (am "world" = some (.ref w)) (WSt H0 H' w wdx nd F (doneS i)) (H' pl = some .lent) (nd ≠ pl)
    refine W_ForH J2 (WI_list ?_)
    repeat walk_at "s"
    refine W_newList fun pl npl => ?_
    repeat walk_at "s"
    have hpn : nd ≠ pl := by
      obtain ⟨l, hl, -⟩ := T6.l
      exact ne2 npl hl
    refine ⟨pl, _, rfl, upd_same .., ⟨pl, rfl, rfl, npl, m1, m2, m3, rfl, T6.sub (fun a o e => by rw [del_ne (ne2 npl e)]; exact upd_old npl e), del_same, hpn⟩, ?_, ?_⟩
    · clear m1 m2 m3
      rintro i a am H₁ ha ⟨pl', -, he, -, m1, m2, m3, m4, T, hpl, -⟩
      intro Q' hQ'
      cases he
      obtain ⟨pp, rfl, hi, hnext, hfr⟩ : ∃ pp : Str, a = .str pp ∧ i < 2 ∧ doneS (i + 1) = (pp, smallB) :: doneS i ∧ ∀ ps ∈ doneS i, ps.1 ≠ pp := by
        exact two_paths ha
      refine W_aName ?_
      repeat walk_at "s"
      refine W_Dict0 fun md nmd => ?_
      repeat walk_at "s"
      refine c_mkRow fun x dx hx hdx nx => ?_
      generalize hg : upd _ dx _ = H5
      have S5 : Sub (upd H₁ md (.dict [])) H5 := by rw [← hg]; exact sub_row (Sub.refl _) hx hdx nx
      have hx5 : H5 x = some (.inst 207 dx) := by rw [← hg, upd_ne nx, upd_same]
      have hdx5 : H5 dx = some (.idict [("path", .str pp), ("package", .str "m"), ("underlying", under smallB), ("methods", .ref md)]) := by rw [← hg, upd_same]; rfl
      have hmd5 : H5 md = some (.dict smallB.dict) := S5 _ _ (upd_same ..)
      have T5 := (T.sub (Sub.upd nmd)).sub S5
      obtain ⟨l, hl, hll, -⟩ := T.l
      have hl5 := S5 _ _ (upd_old nmd hl)
      have hpl5 := S5 _ _ (upd_old nmd hpl)
      have nmn : md ≠ nd := ne1 nmd hl
      clear hg
      repeat walk_at "s"
      refine W_attr T5.w T5.d h3 (fun P => rfl) rfl ?_
      repeat walk_at "s"
      refine W_setItem_dict hl5 (by have := two_done hi
                                    lia) ?_
      repeat walk_at "s"
      refine ⟨_, rfl, rfl, npl, m1, m2, m3, m4, ?_, by rw [upd_ne hpn.symm]; exact hpl5, hpn⟩
      rw [hnext]
      exact T5.store hl5 hx5 hdx5 hmd5 nmn hfr
    · clear m1 m2 m3
      rintro am H₁ ⟨pl', -, he, -, m1, m2, m3, m4, T, hpl, -⟩
      cases he
      repeat walk_at "s"
      have T7 := T.list (o := .list [.str "m.A1", .str "m.B1"]) (T6.s.none npl) hpl
      replace T7 : WSt H0 (restore (some (pl, AO.list [.str "m.A1", .str "m.B1"])) H₁) w wdx nd F (doneS 2) := T7
      generalize hR : restore (some (pl, AO.list [AV.str "m.A1", AV.str "m.B1"])) H₁ = H7 at T7
      have hR' : restore (some (pl, AO.list [AV.str "m.A1", AV.str "m.B1"])) H₁ = H7 := hR
      first | rw [hR'] | skip
      clear J2 hR hR' hpl npl hpn T T6 H₁ H6
      refine S_CallT (T := "tuple") rfl rfl rfl (by decide) rfl rfl rfl (fun _ => rfl) boot_tuple (by decide) ?_
      repeat walk_at "s"
      refine W_tupleList (T7.s _ _ hbl) (by decide) ?_
      repeat walk_at "s"
      refine W_Dict0 fun md nmd => ?_
      repeat walk_at "s"
      refine c_mkRow fun x dx hx hdx nx => ?_
      generalize hg : upd _ dx _ = H5
      have S5 : Sub (upd H7 md (.dict [])) H5 := by rw [← hg]; exact sub_row (Sub.refl _) hx hdx nx
      have hx5 : H5 x = some (.inst 207 dx) := by rw [← hg, upd_ne nx, upd_same]
      have hdx5 : H5 dx = some (.idict [("path", .str "m.A0"), ("package", .str "m"), ("underlying", under smallA), ("methods", .ref md)]) := by rw [← hg, upd_same]; try rfl
      have hmd5 : H5 md = some (.dict smallA.dict) := S5 _ _ (upd_same ..)
      have T5 := (T7.sub (Sub.upd nmd)).sub S5
      obtain ⟨l, hl, hll, -⟩ := T7.l
      have hl5 := S5 _ _ (upd_old nmd hl)
      have nmn : md ≠ nd := ne1 nmd hl
      clear hg
      repeat walk_at "s"
      refine W_attr T5.w T5.d h3 (fun P => rfl) rfl ?_
      repeat walk_at "s"
      refine W_setItem_dict hl5 (by have : (doneS 2).length ≤ 3 := by decide
                                    lia) ?_
      have T8 := T5.store (p := "m.A0") (s := smallA) hl5 hx5 hdx5 hmd5 nmn (fun ps m => by
        rcases List.mem_cons.mp m with rfl | m
        · decide
        · rcases List.mem_cons.mp m with rfl | m
          · decide
          · rw [List.mem_singleton.mp m]; decide)
      generalize upd H5 nd _ = H8 at T8 ⊢
      clear T5 hl5 hx5 hdx5 hmd5 nmn hl hll S5 hx hdx nx nmd H5 l x dx md T7 H7
      have V : WorldAt H8 w (mdl [small]) := T8.world h3 h4
      have S8 : Sub H H8 := S0.trans T8.s
      clear T8 hbl S0 h3 h4 nn
      repeat walk_at "s"
      refine c_law_told (p := "m.A0") V (.inl rfl) small_lv ⟨_, rfl⟩ (by decide) fun H9 S9 => ?_
      rw [small_f, show Out.two.told = AV.str "two" from rfl]
      repeat walk_at "s"
      refine ifF (by decide) ?_
      repeat walk_at "s"
      refine c_deep_right D₀ fun H10 S10 => ?_
      repeat walk_at "s"
      refine ifF rfl ?_
      repeat walk_at "s"
      refine c_parts_right fun H11 S11 => ?_
      repeat walk_at "s"
      refine ifF rfl ?_
      repeat walk_at "s"
      refine ifF rfl ?_
      repeat walk_at "s"
      refine c_law_pool hs hz fun b H12 S12 nb hb => ?_
      repeat walk_at "s"
      refine c_law_drawn hb fun ll layers H13 K hD L => ?_
      repeat walk_at "s"
      obtain ⟨N, G⟩ := P₀ layers hD
      refine c_layers_right L G fun H14 S14 => ?_
      repeat walk_at "s"
      exact rfl
end
theorem bridge {M : Model} {w : World} (hM : M = model pw w) {s : Shared} {h₀ : Heap} {mean : ExcName → Option Value} {mg mb mc : Str → Option Value} {env : Env} {t : Sem Flow} {am : AEnv} {Qs : Flow → Shared → Prop} {E : Value → Shared → Prop}
    (KX : (KK w.params).In h₀) (T : Top vw loose mean mg mb h₀) (he : env.frame = some env.locals)
    (F : Fr h₀ env.locals s.heap mc) (hk : env.scope.kind = .function) (hm : MapR s.heap mc am)
    (hW : W ⟨w, mean, mg, mb, h₀⟩ 29 [] env RF t am (fun _ => none) (fun f _ _ => f.out = .bool true))
    (q : ∀ f h' tk, Keeps h₀ h' → (match f with | Flow.ret v => v | _ => Value.none) = .bool true → Qs f { s with heap := h', toks := tk }) :
    wpAny M (callerA.deeper env) t Qs E s := by
  subst hM
  have ac : AOk callerA (29 + 1) [] := ⟨rfl, rfl, by decide, by decide⟩
  refine wpAny_mono (hW _ s E ⟨KX, T⟩ (ac.deeper he) ⟨F.keep, (fun a o e => by cases e), fun f m => ?_, by simp⟩) (fun fl s' p => ?_) fun _ _ e => e
  · rw [List.mem_singleton.mp m]
    refine ⟨hk, ?_, F.above, mc, F.ns, hm⟩
    exact Heap.get?_none_of_le F.above
  · obtain ⟨f, am', H', h', tk, rfl, rf, x, S, qq⟩ := p
    refine q fl h' tk S.ground ?_
    cases f with
    | ret a =>
      cases fl with
      | ret v =>
        have e : a = .bool true := qq
        subst e
        have rf : VR h' (.bool true) v := rf
        exact rf
      | _ => exact rf.elim
    | _ => exact absurd qq (by simp [AF.out])
end Mine
end
open PySem PySem.W PySem.Calls PyProof.Rows
namespace Mine
theorem ints_VRs {h : Heap} {vs : List Value} {ns : List Int} (x : IntsAre vs ns) : VRs h (ns.map .int) vs := by
  induction x with
  | nil => simp only [List.map_nil, VRs]
  | cons n t _ ih =>
    simp only [List.map_cons, VRs, VR]
    exact ⟨_, _, rfl, ⟨_, rfl⟩, ih⟩
theorem MapR_script {h : Heap} {sl : Addr} : MapR h (fun x => List.lookup x [(("script" : Str), Value.ref sl)].reverse) (amZ ["script"] [.ref sl]) :=
  lookup_R (mapR_zip (y := "") (xs := ["script"]) (as := [.ref sl]) (vs := [.ref sl]) (by exact ⟨_, _, rfl, rfl, rfl⟩)).reverse
end Mine
local macro_rules | `(tactic| k_qdec) => `(tactic| decide +kernel)
set_option maxRecDepth 100000 in
set_option maxHeartbeats 8000000 in
theorem PySem.Challenge.cw_pq0226_01_holds : PySem.Challenge.rw_pq0226_01.Holds := by
  w_on
  refine holds_law Mine.said_ok fun said => ?_
  refine holds_open (q := Mine.vw) (loose := [Str.ofString "ChanError"]) (Xt := fun s => xlAt Mine.vw [] s && recOk (RowW.records PySem.Challenge.rw_pq0226_01.row.toRowW) s) (XP := XL Mine.vw []) (Yf := Hook.obs Mine.HK) (Ya := Hook.val Mine.HK) (YP := Hook.says Mine.HK) (N := 5202) Mine.left (Hook.of Mine.HK) (Hook.keeps Mine.HK) (fun s e => xl_of s (Bool.and_eq_true_iff.mp e).1) XL.keeps (by rfl) (by rfl) (by rfl) (fun s e => recFacts_of (Bool.and_eq_true_iff.mp e).2) (by rfl) (by first | assumption | decide +kernel) (by decide +kernel) ⟨rfl, rfl, rfl, rfl, rfl, by decide +kernel⟩ ?hw ?hc
  case hw => w_witness2
  case hc =>
    w_strict (
      k_go0
      (all_goals try k_fold)
      rename_i w s₀ s₁ mg mb G Y fa o pm doc kV ho hg KX X V GL T B TE TW w9 w8 M w7 w6 hcd ns hs hlay0 hL1 hr1 hl2 w4 w3 sl vs wx hL ra wl r0 hI hr hc1 hc2 K0 hD h₁ F N0
      clear hcd hD
      have hGL : Mine.GL ⟨w, ExcName.means s₀.heap, mg, mb, s₁.heap⟩ sl (ns.map .int) := ⟨vs, hL, Mine.ints_VRs hI⟩
      have hz : ns.length ≤ 63 := by omega
      generalize hE : envOf _ _ _ _ _ = env
      generalize hB : execs _ env = t
      refine Mine.bridge (w := w) (h₀ := s₁.heap) (mean := ExcName.means s₀.heap) (mg := mg) (mb := mb) (env := env) (t := t) (am := Mine.amZ ["script"] [.ref sl]) ?a0 KX T ?he ?hF ?hk Mine.MapR_script ?hW ?q
      case a0 => exact congrArg (fun p => model p w) (by kernel_rfl)
      case he => subst hE; rfl
      case hF => subst hE; exact F
      case hk => subst hE; rfl
      case q =>
        intro f h' tk hK hf
        refine ⟨.inl ⟨.bool true, .bool true, [], congrArg (fun v => Except.ok (Flow.ret v)) hf, ?_, .bool true, ?_, unshared_nil⟩, hK, rfl, hg⟩
        · exact raisesW_false (by wrow_none_raised)
        · wrow_post
      case hW =>
        have hE' : envOf "law" Mine.lawScope s₁.heap.objs.size fa (.ref w7) = env := by rw [← hE]; kernel_rfl
        have hB' : execs Mine.lawBody env = t := by rw [← hB]; kernel_rfl
        have h := @Mine.law_W ⟨w, ExcName.means s₀.heap, mg, mb, s₁.heap⟩ (fun _ => none) sl ns [] s₁.heap.objs.size fa (.ref w7) hGL hz
        clear hB hE
        rw [hE', hB'] at h
        exact h)
