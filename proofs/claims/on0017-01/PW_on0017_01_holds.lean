import PyProof.Rows.All
import Wide.All
import OpenK.AllK
import Wide.FinOn
import PySem.Challenge.RW_on0017_01
set_option rowWalk.seconds 100000
open PySem PySem.W PyProof.Rows PySem.Spec
set_option Elab.async false
namespace Mine
local macro_rules | `(tactic| walk_at $s:str) => `(tactic| k_extra $s)
--PART A01Hd
section
/-- a def of a block: its parameters, body and scope -/
noncomputable def fnAt (l : List Stmt) (i : Nat) : Option (Arguments × List Stmt × Scope) := match l[i]? with
  | some (.FunctionDef _ a b _ _ _ s _ _ _) => some (a, b, s)
  | _ => none
noncomputable def mthAt (i j : Nat) : Option (Arguments × List Stmt × Scope) := match PySem.Challenge.pw_on0017_01.main.body[i]? with
  | some (.ClassDef _ _ _ cb _ _ _ _ _ _ _) => fnAt cb j
  | _ => none
set_option maxRecDepth 100000 in
set_option maxHeartbeats 8000000 in
noncomputable def hd.view_39 : Program := by
  refine' (?f : (x0 : Stmt) → (x2 : Stmt) → (x4 : Stmt) → (x5 : Stmt) → (x6 : Stmt) → (x7 : Stmt) → (x8 : Stmt) → (x9 : Stmt) → (x10 : Stmt) → (x11 : Stmt) → (x13 : Stmt) → (x15 : Stmt) → (x16 : Stmt) → (x17 : Stmt) → (x19 : Stmt) → (x20 : Stmt) → (x21 : Stmt) → (x22 : Stmt) → (x24 : Stmt) → (x25 : Stmt) → (x26 : Stmt) → (x27 : Stmt) → (x28 : Stmt) → (x29 : Stmt) → (x30 : Stmt) → (x31 : Stmt) → (x32 : Stmt) → (x33 : Stmt) → (x34 : Stmt) → (x35 : Stmt) → (x36 : Stmt) → (x37 : Stmt) → (x38 : Stmt) → (([0, 2, 4, 5, 6, 7, 8, 9, 10, 11, 13, 15, 16, 17, 19, 20, 21, 22, 24, 25, 26, 27, 28, 29, 30, 31, 32, 33, 34, 35, 36, 37, 38] : List Nat).filterMap fun i => PySem.Challenge.pw_on0017_01.main.body[i]?) = [x0, x2, x4, x5, x6, x7, x8, x9, x10, x11, x13, x15, x16, x17, x19, x20, x21, x22, x24, x25, x26, x27, x28, x29, x30, x31, x32, x33, x34, x35, x36, x37, x38] → Program) _ _ _ _ _ _ _ _ _ _ _ _ _ _ _ _ _ _ _ _ _ _ _ _ _ _ _ _ _ _ _ _ _ rfl
  exact fun x0 x2 x4 x5 x6 x7 x8 x9 x10 x11 x13 x15 x16 x17 x19 x20 x21 x22 x24 x25 x26 x27 x28 x29 x30 x31 x32 x33 x34 x35 x36 x37 x38 _ => { PySem.Challenge.rw_on0017_01.row.toRowW.1 with main := { PySem.Challenge.rw_on0017_01.row.toRowW.1.main with body := x0 :: x2 :: x4 :: x5 :: x6 :: x7 :: x8 :: x9 :: x10 :: x11 :: x13 :: x15 :: x16 :: x17 :: x19 :: x20 :: x21 :: x22 :: x24 :: x25 :: x26 :: x27 :: x28 :: x29 :: x30 :: x31 :: x32 :: x33 :: x34 :: x35 :: x36 :: x37 :: x38 :: [] } }
set_option maxRecDepth 100000 in
set_option maxHeartbeats 8000000 in
noncomputable def hd.heap_39 : Params → Frag := by
  refine' (?f : (a21 : Arguments) → (b21 : List Stmt) → (s21 : Scope) → fnAt PySem.Challenge.pw_on0017_01.main.body 0 = some (a21, b21, s21) → (a28 : Arguments) → (b28 : List Stmt) → (s28 : Scope) → fnAt PySem.Challenge.pw_on0017_01.main.body 2 = some (a28, b28, s28) → (a35 : Arguments) → (b35 : List Stmt) → (s35 : Scope) → fnAt PySem.Challenge.pw_on0017_01.main.body 5 = some (a35, b35, s35) → (a42 : Arguments) → (b42 : List Stmt) → (s42 : Scope) → fnAt PySem.Challenge.pw_on0017_01.main.body 6 = some (a42, b42, s42) → (a47 : Arguments) → (b47 : List Stmt) → (s47 : Scope) → fnAt PySem.Challenge.pw_on0017_01.main.body 7 = some (a47, b47, s47) → (a54 : Arguments) → (b54 : List Stmt) → (s54 : Scope) → fnAt PySem.Challenge.pw_on0017_01.main.body 8 = some (a54, b54, s54) → (a61 : Arguments) → (b61 : List Stmt) → (s61 : Scope) → fnAt PySem.Challenge.pw_on0017_01.main.body 9 = some (a61, b61, s61) → (a68 : Arguments) → (b68 : List Stmt) → (s68 : Scope) → fnAt PySem.Challenge.pw_on0017_01.main.body 10 = some (a68, b68, s68) → (a73 : Arguments) → (b73 : List Stmt) → (s73 : Scope) → fnAt PySem.Challenge.pw_on0017_01.main.body 11 = some (a73, b73, s73) → (a87 : Arguments) → (b87 : List Stmt) → (s87 : Scope) → mthAt 13 0 = some (a87, b87, s87) → (a109 : Arguments) → (b109 : List Stmt) → (s109 : Scope) → mthAt 15 0 = some (a109, b109, s109) → (a156 : Arguments) → (b156 : List Stmt) → (s156 : Scope) → mthAt 20 0 = some (a156, b156, s156) → (a170 : Arguments) → (b170 : List Stmt) → (s170 : Scope) → fnAt PySem.Challenge.pw_on0017_01.main.body 21 = some (a170, b170, s170) → (a185 : Arguments) → (b185 : List Stmt) → (s185 : Scope) → mthAt 22 0 = some (a185, b185, s185) → (a192 : Arguments) → (b192 : List Stmt) → (s192 : Scope) → mthAt 22 1 = some (a192, b192, s192) → (a199 : Arguments) → (b199 : List Stmt) → (s199 : Scope) → mthAt 22 2 = some (a199, b199, s199) → (a213 : Arguments) → (b213 : List Stmt) → (s213 : Scope) → fnAt PySem.Challenge.pw_on0017_01.main.body 24 = some (a213, b213, s213) → (a220 : Arguments) → (b220 : List Stmt) → (s220 : Scope) → fnAt PySem.Challenge.pw_on0017_01.main.body 25 = some (a220, b220, s220) → (a227 : Arguments) → (b227 : List Stmt) → (s227 : Scope) → fnAt PySem.Challenge.pw_on0017_01.main.body 26 = some (a227, b227, s227) → (a245 : Arguments) → (b245 : List Stmt) → (s245 : Scope) → fnAt PySem.Challenge.pw_on0017_01.main.body 31 = some (a245, b245, s245) → (a252 : Arguments) → (b252 : List Stmt) → (s252 : Scope) → fnAt PySem.Challenge.pw_on0017_01.main.body 32 = some (a252, b252, s252) → (a259 : Arguments) → (b259 : List Stmt) → (s259 : Scope) → fnAt PySem.Challenge.pw_on0017_01.main.body 33 = some (a259, b259, s259) → (a266 : Arguments) → (b266 : List Stmt) → (s266 : Scope) → fnAt PySem.Challenge.pw_on0017_01.main.body 34 = some (a266, b266, s266) → (a273 : Arguments) → (b273 : List Stmt) → (s273 : Scope) → fnAt PySem.Challenge.pw_on0017_01.main.body 35 = some (a273, b273, s273) → (a278 : Arguments) → (b278 : List Stmt) → (s278 : Scope) → fnAt PySem.Challenge.pw_on0017_01.main.body 36 = some (a278, b278, s278) → (a283 : Arguments) → (b283 : List Stmt) → (s283 : Scope) → fnAt PySem.Challenge.pw_on0017_01.main.body 37 = some (a283, b283, s283) → (a288 : Arguments) → (b288 : List Stmt) → (s288 : Scope) → fnAt PySem.Challenge.pw_on0017_01.main.body 38 = some (a288, b288, s288) → Params → Frag) _ _ _ rfl _ _ _ rfl _ _ _ rfl _ _ _ rfl _ _ _ rfl _ _ _ rfl _ _ _ rfl _ _ _ rfl _ _ _ rfl _ _ _ rfl _ _ _ rfl _ _ _ rfl _ _ _ rfl _ _ _ rfl _ _ _ rfl _ _ _ rfl _ _ _ rfl _ _ _ rfl _ _ _ rfl _ _ _ rfl _ _ _ rfl _ _ _ rfl _ _ _ rfl _ _ _ rfl _ _ _ rfl _ _ _ rfl _ _ _ rfl
  exact fun a21 b21 s21 _ a28 b28 s28 _ a35 b35 s35 _ a42 b42 s42 _ a47 b47 s47 _ a54 b54 s54 _ a61 b61 s61 _ a68 b68 s68 _ a73 b73 s73 _ a87 b87 s87 _ a109 b109 s109 _ a156 b156 s156 _ a170 b170 s170 _ a185 b185 s185 _ a192 b192 s192 _ a199 b199 s199 _ a213 b213 s213 _ a220 b220 s220 _ a227 b227 s227 _ a245 b245 s245 _ a252 b252 s252 _ a259 b259 s259 _ a266 b266 s266 _ a273 b273 s273 _ a278 b278 s278 _ a283 b283 s283 _ a288 b288 s288 _ P => ((nat_lit 2, { cls := Value.none, data := Data.dict #[{ hash := PyData.keyHash P (Str.ofString "type.__subclasses__.Exception.0"), key := Value.str (Str.ofString "type.__subclasses__.Exception.0") (334 : Nat), val := Value.int 112 (0 : Nat) }, { hash := PyData.keyHash P (Str.ofString "type.__subclasses__.Exception.n"), key := Value.str (Str.ofString "type.__subclasses__.Exception.n") (335 : Nat), val := Value.int 1 (0 : Nat) }] 2 }) :: (nat_lit 3, { cls := Value.type "dict", data := Data.dict (List.toArray ({ hash := PyData.keyHash P (Str.ofString "__name__"), key := Value.str (Str.ofString "__name__") (165 : Nat), val := Value.str (Str.ofString "law_on0017_01") (479 : Nat) } :: { hash := PyData.keyHash P (Str.ofString "__doc__"), key := Value.str (Str.ofString "__doc__") (166 : Nat), val := Value.none } :: { hash := PyData.keyHash P (Str.ofString "__package__"), key := Value.str (Str.ofString "__package__") (167 : Nat), val := Value.none } :: { hash := PyData.keyHash P (Str.ofString "__loader__"), key := Value.str (Str.ofString "__loader__") (168 : Nat), val := Value.builtin "__main__.__loader__#opaque" } :: { hash := PyData.keyHash P (Str.ofString "__spec__"), key := Value.str (Str.ofString "__spec__") (169 : Nat), val := Value.none } :: { hash := PyData.keyHash P (Str.ofString "__annotations__"), key := Value.str (Str.ofString "__annotations__") (170 : Nat), val := Value.ref (6 : Nat) } :: { hash := PyData.keyHash P (Str.ofString "__builtins__"), key := Value.str (Str.ofString "__builtins__") (171 : Nat), val := Value.ref (4 : Nat) } :: { hash := PyData.keyHash P (Str.ofString "__file__"), key := Value.str (Str.ofString "__file__") (173 : Nat), val := Value.str (Str.ofString "/claim/cut.py") (172 : Nat) } :: { hash := PyData.keyHash P (Str.ofString "__cached__"), key := Value.str (Str.ofString "__cached__") (174 : Nat), val := Value.none } :: { hash := PyData.keyHash P (Str.ofString "_wall"), key := Value.str (Str.ofString "_wall") (193 : Nat), val := Value.ref (21 : Nat) } :: { hash := PyData.keyHash P (Str.ofString "underlying_of"), key := Value.str (Str.ofString "underlying_of") (203 : Nat), val := Value.ref (28 : Nat) } :: { hash := PyData.keyHash P (Str.ofString "ADDRESS"), key := Value.str (Str.ofString "ADDRESS") (207 : Nat), val := Value.str (Str.ofString "address") (206 : Nat) } :: { hash := PyData.keyHash P (Str.ofString "root_local"), key := Value.str (Str.ofString "root_local") (216 : Nat), val := Value.ref (35 : Nat) } :: { hash := PyData.keyHash P (Str.ofString "is_part"), key := Value.str (Str.ofString "is_part") (223 : Nat), val := Value.ref (42 : Nat) } :: { hash := PyData.keyHash P (Str.ofString "assigned_places"), key := Value.str (Str.ofString "assigned_places") (229 : Nat), val := Value.ref (47 : Nat) } :: { hash := PyData.keyHash P (Str.ofString "lent_places"), key := Value.str (Str.ofString "lent_places") (236 : Nat), val := Value.ref (54 : Nat) } :: { hash := PyData.keyHash P (Str.ofString "boxed_of"), key := Value.str (Str.ofString "boxed_of") (247 : Nat), val := Value.ref (61 : Nat) } :: { hash := PyData.keyHash P (Str.ofString "is_type"), key := Value.str (Str.ofString "is_type") (254 : Nat), val := Value.ref (68 : Nat) } :: { hash := PyData.keyHash P (Str.ofString "boxed_locals"), key := Value.str (Str.ofString "boxed_locals") (260 : Nat), val := Value.ref (73 : Nat) } :: { hash := PyData.keyHash P (Str.ofString "TypedFn"), key := Value.str (Str.ofString "TypedFn") (303 : Nat), val := Value.ref (90 : Nat) } :: { hash := PyData.keyHash P (Str.ofString "ChanError"), key := Value.str (Str.ofString "ChanError") (337 : Nat), val := Value.ref (112 : Nat) } :: { hash := PyData.keyHash P (Str.ofString "NameFault"), key := Value.str (Str.ofString "NameFault") (353 : Nat), val := Value.ref (125 : Nat) } :: { hash := PyData.keyHash P (Str.ofString "TypeFault"), key := Value.str (Str.ofString "TypeFault") (369 : Nat), val := Value.ref (137 : Nat) } :: { hash := PyData.keyHash P (Str.ofString "PLAIN"), key := Value.str (Str.ofString "PLAIN") (373 : Nat), val := Value.ref (142 : Nat) } :: { hash := PyData.keyHash P (Str.ofString "NamedRow"), key := Value.str (Str.ofString "NamedRow") (408 : Nat), val := Value.ref (159 : Nat) } :: { hash := PyData.keyHash P (Str.ofString "known_rows"), key := Value.str (Str.ofString "known_rows") (420 : Nat), val := Value.ref (170 : Nat) } :: { hash := PyData.keyHash P (Str.ofString "World"), key := Value.str (Str.ofString "World") (478 : Nat), val := Value.ref (202 : Nat) } :: { hash := PyData.keyHash P (Str.ofString "_law_pool"), key := Value.str (Str.ofString "_law_pool") (491 : Nat), val := Value.ref (213 : Nat) } :: { hash := PyData.keyHash P (Str.ofString "_law_take"), key := Value.str (Str.ofString "_law_take") (500 : Nat), val := Value.ref (220 : Nat) } :: { hash := PyData.keyHash P (Str.ofString "_law_one"), key := Value.str (Str.ofString "_law_one") (508 : Nat), val := Value.ref (227 : Nat) } :: { hash := PyData.keyHash P (Str.ofString "_law_int"), key := Value.str (Str.ofString "_law_int") (511 : Nat), val := Value.ref (228 : Nat) } :: { hash := PyData.keyHash P (Str.ofString "_law_array"), key := Value.str (Str.ofString "_law_array") (516 : Nat), val := Value.ref (230 : Nat) } :: { hash := PyData.keyHash P (Str.ofString "_law_pair"), key := Value.str (Str.ofString "_law_pair") (526 : Nat), val := Value.ref (237 : Nat) } :: { hash := PyData.keyHash P (Str.ofString "_law_named"), key := Value.str (Str.ofString "_law_named") (529 : Nat), val := Value.ref (238 : Nat) } :: { hash := PyData.keyHash P (Str.ofString "_law_types"), key := Value.str (Str.ofString "_law_types") (535 : Nat), val := Value.ref (245 : Nat) } :: { hash := PyData.keyHash P (Str.ofString "_law_local"), key := Value.str (Str.ofString "_law_local") (542 : Nat), val := Value.ref (252 : Nat) } :: { hash := PyData.keyHash P (Str.ofString "_law_place"), key := Value.str (Str.ofString "_law_place") (556 : Nat), val := Value.ref (259 : Nat) } :: { hash := PyData.keyHash P (Str.ofString "_law_kind"), key := Value.str (Str.ofString "_law_kind") (563 : Nat), val := Value.ref (266 : Nat) } :: { hash := PyData.keyHash P (Str.ofString "_law_value"), key := Value.str (Str.ofString "_law_value") (575 : Nat), val := Value.ref (273 : Nat) } :: { hash := PyData.keyHash P (Str.ofString "_law_statement"), key := Value.str (Str.ofString "_law_statement") (581 : Nat), val := Value.ref (278 : Nat) } :: { hash := PyData.keyHash P (Str.ofString "_law_told"), key := Value.str (Str.ofString "_law_told") (587 : Nat), val := Value.ref (283 : Nat) } :: { hash := PyData.keyHash P (Str.ofString "law"), key := Value.str (Str.ofString "law") (593 : Nat), val := Value.ref (288 : Nat) } :: [])) 42 }) :: (nat_lit 15, { cls := Value.type "tuple", data := Data.seq #[] }) :: (nat_lit 17, { cls := Value.type "tuple", data := Data.seq #[Value.str (Str.ofString "k") (190 : Nat)] }) :: (nat_lit 18, { cls := Value.type "tuple", data := Data.seq #[] }) :: (nat_lit 20, { cls := Value.type "code", data := Data.fields #[Value.str (Str.ofString "_wall") (187 : Nat), Value.str (Str.ofString "_wall") (188 : Nat), Value.str (Str.ofString "/claim/cut.py") (189 : Nat), Value.int 1 (0 : Nat), Value.int 1 (0 : Nat), Value.int 0 (0 : Nat), Value.int 0 (0 : Nat), Value.int 3 (0 : Nat), Value.ref (15 : Nat), Value.bool true, Value.int 181 (0 : Nat), Value.ref (16 : Nat), Value.none, Value.ref (17 : Nat), Value.ref (18 : Nat), Value.ref (19 : Nat), Value.int 191 (0 : Nat), Value.int 1 (0 : Nat), Value.str (Str.ofString "/claim/cut.py") (192 : Nat)] }) :: (nat_lit 21, { cls := Value.type "function", data := Data.func { name := Str.ofString "_wall", qualname := Str.ofString "_wall", params := a21, body := .stmts b21, scope := s21, globals := 3, closure := [], defaults := Value.none, kwdefaults := Value.none, pyModule := Value.str (Str.ofString "__main__") (164 : Nat), code := Value.ref (20 : Nat) } }) :: (nat_lit 22, { cls := Value.type "tuple", data := Data.seq #[] }) :: (nat_lit 24, { cls := Value.type "tuple", data := Data.seq #[Value.str (Str.ofString "world") (199 : Nat), Value.str (Str.ofString "T") (200 : Nat)] }) :: (nat_lit 25, { cls := Value.type "tuple", data := Data.seq #[] }) :: (nat_lit 27, { cls := Value.type "code", data := Data.fields #[Value.str (Str.ofString "underlying_of") (196 : Nat), Value.str (Str.ofString "underlying_of") (197 : Nat), Value.str (Str.ofString "/claim/cut.py") (198 : Nat), Value.int 5 (0 : Nat), Value.int 2 (0 : Nat), Value.int 0 (0 : Nat), Value.int 0 (0 : Nat), Value.int 3 (0 : Nat), Value.ref (22 : Nat), Value.bool true, Value.int 181 (0 : Nat), Value.ref (23 : Nat), Value.none, Value.ref (24 : Nat), Value.ref (25 : Nat), Value.ref (26 : Nat), Value.int 201 (0 : Nat), Value.int 5 (0 : Nat), Value.str (Str.ofString "/claim/cut.py") (202 : Nat)] }) :: (nat_lit 28, { cls := Value.type "function", data := Data.func { name := Str.ofString "underlying_of", qualname := Str.ofString "underlying_of", params := a28, body := .stmts b28, scope := s28, globals := 3, closure := [], defaults := Value.none, kwdefaults := Value.none, pyModule := Value.str (Str.ofString "chancore.types") (194 : Nat), code := Value.ref (27 : Nat) } }) :: (nat_lit 29, { cls := Value.type "tuple", data := Data.seq #[] }) :: (nat_lit 31, { cls := Value.type "tuple", data := Data.seq #[Value.str (Str.ofString "place") (211 : Nat), Value.str (Str.ofString "world") (212 : Nat), Value.str (Str.ofString "inner") (213 : Nat)] }) :: (nat_lit 32, { cls := Value.type "tuple", data := Data.seq #[] }) :: (nat_lit 34, { cls := Value.type "code", data := Data.fields #[Value.str (Str.ofString "root_local") (208 : Nat), Value.str (Str.ofString "root_local") (209 : Nat), Value.str (Str.ofString "/claim/cut.py") (210 : Nat), Value.int 9 (0 : Nat), Value.int 2 (0 : Nat), Value.int 0 (0 : Nat), Value.int 0 (0 : Nat), Value.int 3 (0 : Nat), Value.ref (29 : Nat), Value.bool true, Value.int 181 (0 : Nat), Value.ref (30 : Nat), Value.none, Value.ref (31 : Nat), Value.ref (32 : Nat), Value.ref (33 : Nat), Value.int 214 (0 : Nat), Value.int 9 (0 : Nat), Value.str (Str.ofString "/claim/cut.py") (215 : Nat)] }) :: (nat_lit 35, { cls := Value.type "function", data := Data.func { name := Str.ofString "root_local", qualname := Str.ofString "root_local", params := a35, body := .stmts b35, scope := s35, globals := 3, closure := [], defaults := Value.none, kwdefaults := Value.none, pyModule := Value.str (Str.ofString "chancore.captures") (204 : Nat), code := Value.ref (34 : Nat) } }) :: (nat_lit 36, { cls := Value.type "tuple", data := Data.seq #[] }) :: (nat_lit 38, { cls := Value.type "tuple", data := Data.seq #[Value.str (Str.ofString "place") (220 : Nat)] }) :: (nat_lit 39, { cls := Value.type "tuple", data := Data.seq #[] }) :: (nat_lit 41, { cls := Value.type "code", data := Data.fields #[Value.str (Str.ofString "is_part") (217 : Nat), Value.str (Str.ofString "is_part") (218 : Nat), Value.str (Str.ofString "/claim/cut.py") (219 : Nat), Value.int 16 (0 : Nat), Value.int 1 (0 : Nat), Value.int 0 (0 : Nat), Value.int 0 (0 : Nat), Value.int 3 (0 : Nat), Value.ref (36 : Nat), Value.bool true, Value.int 181 (0 : Nat), Value.ref (37 : Nat), Value.none, Value.ref (38 : Nat), Value.ref (39 : Nat), Value.ref (40 : Nat), Value.int 221 (0 : Nat), Value.int 16 (0 : Nat), Value.str (Str.ofString "/claim/cut.py") (222 : Nat)] }) :: (nat_lit 42, { cls := Value.type "function", data := Data.func { name := Str.ofString "is_part", qualname := Str.ofString "is_part", params := a42, body := .stmts b42, scope := s42, globals := 3, closure := [], defaults := Value.none, kwdefaults := Value.none, pyModule := Value.str (Str.ofString "chancore.captures") (204 : Nat), code := Value.ref (41 : Nat) } }) :: (nat_lit 43, { cls := Value.type "tuple", data := Data.seq #[] }) :: (nat_lit 46, { cls := Value.type "code", data := Data.fields #[Value.str (Str.ofString "assigned_places") (224 : Nat), Value.str (Str.ofString "assigned_places") (225 : Nat), Value.str (Str.ofString "/claim/cut.py") (226 : Nat), Value.int 18 (0 : Nat), Value.int 1 (0 : Nat), Value.int 0 (0 : Nat), Value.int 0 (0 : Nat), Value.int 3 (0 : Nat), Value.ref (43 : Nat), Value.bool true, Value.int 181 (0 : Nat), Value.ref (44 : Nat), Value.none, Value.none, Value.none, Value.ref (45 : Nat), Value.int 227 (0 : Nat), Value.int 18 (0 : Nat), Value.str (Str.ofString "/claim/cut.py") (228 : Nat)] }) :: (nat_lit 47, { cls := Value.type "function", data := Data.func { name := Str.ofString "assigned_places", qualname := Str.ofString "assigned_places", params := a47, body := .stmts b47, scope := s47, globals := 3, closure := [], defaults := Value.none, kwdefaults := Value.none, pyModule := Value.str (Str.ofString "chancore.captures") (204 : Nat), code := Value.ref (46 : Nat) } }) :: (nat_lit 48, { cls := Value.type "tuple", data := Data.seq #[] }) :: (nat_lit 50, { cls := Value.type "tuple", data := Data.seq #[Value.str (Str.ofString "node") (233 : Nat)] }) :: (nat_lit 51, { cls := Value.type "tuple", data := Data.seq #[] }) :: (nat_lit 53, { cls := Value.type "code", data := Data.fields #[Value.str (Str.ofString "lent_places") (230 : Nat), Value.str (Str.ofString "lent_places") (231 : Nat), Value.str (Str.ofString "/claim/cut.py") (232 : Nat), Value.int 29 (0 : Nat), Value.int 1 (0 : Nat), Value.int 0 (0 : Nat), Value.int 0 (0 : Nat), Value.int 3 (0 : Nat), Value.ref (48 : Nat), Value.bool true, Value.int 181 (0 : Nat), Value.ref (49 : Nat), Value.none, Value.ref (50 : Nat), Value.ref (51 : Nat), Value.ref (52 : Nat), Value.int 234 (0 : Nat), Value.int 29 (0 : Nat), Value.str (Str.ofString "/claim/cut.py") (235 : Nat)] }) :: (nat_lit 54, { cls := Value.type "function", data := Data.func { name := Str.ofString "lent_places", qualname := Str.ofString "lent_places", params := a54, body := .stmts b54, scope := s54, globals := 3, closure := [], defaults := Value.none, kwdefaults := Value.none, pyModule := Value.str (Str.ofString "chancore.captures") (204 : Nat), code := Value.ref (53 : Nat) } }) :: (nat_lit 55, { cls := Value.type "tuple", data := Data.seq #[] }) :: (nat_lit 57, { cls := Value.type "tuple", data := Data.seq #[Value.str (Str.ofString "node") (240 : Nat), Value.str (Str.ofString "world") (241 : Nat), Value.str (Str.ofString "found") (242 : Nat), Value.str (Str.ofString "place") (243 : Nat), Value.str (Str.ofString "local") (244 : Nat)] }) :: (nat_lit 58, { cls := Value.type "tuple", data := Data.seq #[] }) :: (nat_lit 60, { cls := Value.type "code", data := Data.fields #[Value.str (Str.ofString "boxed_of") (237 : Nat), Value.str (Str.ofString "boxed_of") (238 : Nat), Value.str (Str.ofString "/claim/cut.py") (239 : Nat), Value.int 33 (0 : Nat), Value.int 3 (0 : Nat), Value.int 0 (0 : Nat), Value.int 0 (0 : Nat), Value.int 3 (0 : Nat), Value.ref (55 : Nat), Value.bool true, Value.int 181 (0 : Nat), Value.ref (56 : Nat), Value.none, Value.ref (57 : Nat), Value.ref (58 : Nat), Value.ref (59 : Nat), Value.int 245 (0 : Nat), Value.int 33 (0 : Nat), Value.str (Str.ofString "/claim/cut.py") (246 : Nat)] }) :: (nat_lit 61, { cls := Value.type "function", data := Data.func { name := Str.ofString "boxed_of", qualname := Str.ofString "boxed_of", params := a61, body := .stmts b61, scope := s61, globals := 3, closure := [], defaults := Value.none, kwdefaults := Value.none, pyModule := Value.str (Str.ofString "chancore.captures") (204 : Nat), code := Value.ref (60 : Nat) } }) :: (nat_lit 62, { cls := Value.type "tuple", data := Data.seq #[] }) :: (nat_lit 64, { cls := Value.type "tuple", data := Data.seq #[Value.str (Str.ofString "node") (251 : Nat)] }) :: (nat_lit 65, { cls := Value.type "tuple", data := Data.seq #[] }) :: (nat_lit 67, { cls := Value.type "code", data := Data.fields #[Value.str (Str.ofString "is_type") (248 : Nat), Value.str (Str.ofString "is_type") (249 : Nat), Value.str (Str.ofString "/claim/cut.py") (250 : Nat), Value.int 43 (0 : Nat), Value.int 1 (0 : Nat), Value.int 0 (0 : Nat), Value.int 0 (0 : Nat), Value.int 3 (0 : Nat), Value.ref (62 : Nat), Value.bool true, Value.int 181 (0 : Nat), Value.ref (63 : Nat), Value.none, Value.ref (64 : Nat), Value.ref (65 : Nat), Value.ref (66 : Nat), Value.int 252 (0 : Nat), Value.int 43 (0 : Nat), Value.str (Str.ofString "/claim/cut.py") (253 : Nat)] }) :: (nat_lit 68, { cls := Value.type "function", data := Data.func { name := Str.ofString "is_type", qualname := Str.ofString "is_type", params := a68, body := .stmts b68, scope := s68, globals := 3, closure := [], defaults := Value.none, kwdefaults := Value.none, pyModule := Value.str (Str.ofString "chancore.captures") (204 : Nat), code := Value.ref (67 : Nat) } }) :: (nat_lit 69, { cls := Value.type "tuple", data := Data.seq #[] }) :: (nat_lit 72, { cls := Value.type "code", data := Data.fields #[Value.str (Str.ofString "boxed_locals") (255 : Nat), Value.str (Str.ofString "boxed_locals") (256 : Nat), Value.str (Str.ofString "/claim/cut.py") (257 : Nat), Value.int 47 (0 : Nat), Value.int 2 (0 : Nat), Value.int 0 (0 : Nat), Value.int 0 (0 : Nat), Value.int 3 (0 : Nat), Value.ref (69 : Nat), Value.bool true, Value.int 181 (0 : Nat), Value.ref (70 : Nat), Value.none, Value.none, Value.none, Value.ref (71 : Nat), Value.int 258 (0 : Nat), Value.int 47 (0 : Nat), Value.str (Str.ofString "/claim/cut.py") (259 : Nat)] }) :: (nat_lit 73, { cls := Value.type "function", data := Data.func { name := Str.ofString "boxed_locals", qualname := Str.ofString "boxed_locals", params := a73, body := .stmts b73, scope := s73, globals := 3, closure := [], defaults := Value.none, kwdefaults := Value.none, pyModule := Value.str (Str.ofString "chancore.captures") (204 : Nat), code := Value.ref (72 : Nat) } }) :: (nat_lit 81, { cls := Value.type "tuple", data := Data.seq #[] }) :: (nat_lit 83, { cls := Value.type "tuple", data := Data.seq #[Value.str (Str.ofString "self") (278 : Nat), Value.str (Str.ofString "key") (279 : Nat), Value.str (Str.ofString "rows") (280 : Nat), Value.str (Str.ofString "params") (281 : Nat), Value.str (Str.ofString "results") (282 : Nat), Value.str (Str.ofString "captured") (283 : Nat), Value.str (Str.ofString "body") (284 : Nat), Value.str (Str.ofString "literals") (285 : Nat)] }) :: (nat_lit 84, { cls := Value.type "tuple", data := Data.seq #[] }) :: (nat_lit 86, { cls := Value.type "code", data := Data.fields #[Value.str (Str.ofString "__init__") (275 : Nat), Value.str (Str.ofString "TypedFn.__init__") (276 : Nat), Value.str (Str.ofString "/claim/cut.py") (277 : Nat), Value.int 67 (0 : Nat), Value.int 8 (0 : Nat), Value.int 0 (0 : Nat), Value.int 0 (0 : Nat), Value.int 3 (0 : Nat), Value.ref (81 : Nat), Value.bool true, Value.int 181 (0 : Nat), Value.ref (82 : Nat), Value.none, Value.ref (83 : Nat), Value.ref (84 : Nat), Value.ref (85 : Nat), Value.int 286 (0 : Nat), Value.int 67 (0 : Nat), Value.str (Str.ofString "/claim/cut.py") (287 : Nat)] }) :: (nat_lit 87, { cls := Value.type "function", data := Data.func { name := Str.ofString "__init__", qualname := Str.ofString "TypedFn.__init__", params := a87, body := .stmts b87, scope := s87, globals := 3, closure := [], defaults := Value.none, kwdefaults := Value.none, pyModule := Value.str (Str.ofString "chancore.check_state") (261 : Nat), code := Value.ref (86 : Nat) } }) :: (nat_lit 88, { cls := Value.type "tuple", data := Data.seq #[Value.str (Str.ofString "body") (289 : Nat), Value.str (Str.ofString "captured") (290 : Nat), Value.str (Str.ofString "key") (291 : Nat), Value.str (Str.ofString "literals") (292 : Nat), Value.str (Str.ofString "locals") (293 : Nat), Value.str (Str.ofString "params") (294 : Nat), Value.str (Str.ofString "results") (295 : Nat)] }) :: (nat_lit 89, { cls := Value.type "dict", data := Data.dict #[{ hash := PyData.keyHash P (Str.ofString "__module__"), key := Value.str (Str.ofString "__module__") (270 : Nat), val := Value.str (Str.ofString "chancore.check_state") (261 : Nat) }, { hash := PyData.keyHash P (Str.ofString "__firstlineno__"), key := Value.str (Str.ofString "__firstlineno__") (274 : Nat), val := Value.int 65 (273 : Nat) }, { hash := PyData.keyHash P (Str.ofString "__init__"), key := Value.str (Str.ofString "__init__") (288 : Nat), val := Value.ref (87 : Nat) }, { hash := PyData.keyHash P (Str.ofString "__static_attributes__"), key := Value.str (Str.ofString "__static_attributes__") (296 : Nat), val := Value.ref (88 : Nat) }, { hash := PyData.keyHash P (Str.ofString "__dict__"), key := Value.str (Str.ofString "__dict__") (298 : Nat), val := Value.ref (91 : Nat) }, { hash := PyData.keyHash P (Str.ofString "__weakref__"), key := Value.str (Str.ofString "__weakref__") (300 : Nat), val := Value.ref (92 : Nat) }, { hash := PyData.keyHash P (Str.ofString "__doc__"), key := Value.str (Str.ofString "__doc__") (301 : Nat), val := Value.none }] 4 }) :: (nat_lit 90, { cls := Value.type "type", data := Data.cls { name := Str.ofString "TypedFn", bases := [Value.type "object"], mro := [Value.ref (90 : Nat), Value.type "object"], ns := 89, qualname := Str.ofString "TypedFn" }, slots := #[none, none, some (Value.str (Str.ofString "TypedFn") (263 : Nat)), some (Value.str (Str.ofString "TypedFn") (271 : Nat)), some (Value.builtin "object.__new__"), some (Value.bool true)] }) :: (nat_lit 91, { cls := Value.type "getset_descriptor", data := Data.fields #[Value.str (Str.ofString "__dict__") (297 : Nat), Value.ref (90 : Nat), Value.builtin "function.__dict__", Value.builtin "function.__dict__#set"] }) :: (nat_lit 92, { cls := Value.type "getset_descriptor", data := Data.fields #[Value.str (Str.ofString "__weakref__") (299 : Nat), Value.ref (90 : Nat), Value.builtin "ExceptionGroup.__weakref__", Value.none] }) :: (nat_lit 95, { cls := Value.type "tuple", data := Data.seq #[Value.type "Exception"] }) :: (nat_lit 102, { cls := Value.type "tuple", data := Data.seq #[Value.int 0 (318 : Nat)] }) :: (nat_lit 103, { cls := Value.type "tuple", data := Data.seq #[] }) :: (nat_lit 105, { cls := Value.type "tuple", data := Data.seq #[Value.str (Str.ofString "self") (322 : Nat), Value.str (Str.ofString "message") (323 : Nat), Value.str (Str.ofString "spot") (324 : Nat)] }) :: (nat_lit 106, { cls := Value.type "tuple", data := Data.seq #[] }) :: (nat_lit 108, { cls := Value.type "code", data := Data.fields #[Value.str (Str.ofString "__init__") (319 : Nat), Value.str (Str.ofString "ChanError.__init__") (320 : Nat), Value.str (Str.ofString "/claim/cut.py") (321 : Nat), Value.int 78 (0 : Nat), Value.int 3 (0 : Nat), Value.int 0 (0 : Nat), Value.int 0 (0 : Nat), Value.int 3 (0 : Nat), Value.ref (103 : Nat), Value.bool true, Value.int 181 (0 : Nat), Value.ref (104 : Nat), Value.none, Value.ref (105 : Nat), Value.ref (106 : Nat), Value.ref (107 : Nat), Value.int 325 (0 : Nat), Value.int 78 (0 : Nat), Value.str (Str.ofString "/claim/cut.py") (326 : Nat)] }) :: (nat_lit 109, { cls := Value.type "function", data := Data.func { name := Str.ofString "__init__", qualname := Str.ofString "ChanError.__init__", params := a109, body := .stmts b109, scope := s109, globals := 3, closure := [], defaults := Value.ref (102 : Nat), kwdefaults := Value.none, pyModule := Value.str (Str.ofString "chancore.errors") (304 : Nat), code := Value.ref (108 : Nat) } }) :: (nat_lit 110, { cls := Value.type "tuple", data := Data.seq #[Value.str (Str.ofString "message") (328 : Nat), Value.str (Str.ofString "spot") (329 : Nat)] }) :: (nat_lit 111, { cls := Value.type "dict", data := Data.dict #[{ hash := PyData.keyHash P (Str.ofString "__module__"), key := Value.str (Str.ofString "__module__") (313 : Nat), val := Value.str (Str.ofString "chancore.errors") (304 : Nat) }, { hash := PyData.keyHash P (Str.ofString "__firstlineno__"), key := Value.str (Str.ofString "__firstlineno__") (317 : Nat), val := Value.int 76 (316 : Nat) }, { hash := PyData.keyHash P (Str.ofString "__init__"), key := Value.str (Str.ofString "__init__") (327 : Nat), val := Value.ref (109 : Nat) }, { hash := PyData.keyHash P (Str.ofString "__static_attributes__"), key := Value.str (Str.ofString "__static_attributes__") (330 : Nat), val := Value.ref (110 : Nat) }, { hash := PyData.keyHash P (Str.ofString "__weakref__"), key := Value.str (Str.ofString "__weakref__") (332 : Nat), val := Value.ref (113 : Nat) }, { hash := PyData.keyHash P (Str.ofString "__doc__"), key := Value.str (Str.ofString "__doc__") (333 : Nat), val := Value.none }] 3 }) :: (nat_lit 112, { cls := Value.type "type", data := Data.cls { name := Str.ofString "ChanError", bases := [Value.type "Exception"], mro := [Value.ref (112 : Nat), Value.type "Exception", Value.type "BaseException", Value.type "object"], ns := 111, qualname := Str.ofString "ChanError", subclasses := [Value.ref (125 : Nat), Value.ref (137 : Nat)] }, slots := #[some (Value.ref (95 : Nat)), none, some (Value.str (Str.ofString "ChanError") (306 : Nat)), some (Value.str (Str.ofString "ChanError") (314 : Nat)), some (Value.builtin "Exception.__new__"), some (Value.bool true)] }) :: (nat_lit 113, { cls := Value.type "getset_descriptor", data := Data.fields #[Value.str (Str.ofString "__weakref__") (331 : Nat), Value.ref (112 : Nat), Value.builtin "ExceptionGroup.__weakref__", Value.none] }) :: (nat_lit 116, { cls := Value.type "tuple", data := Data.seq #[Value.ref (112 : Nat)] }) :: (nat_lit 123, { cls := Value.type "tuple", data := Data.seq #[] }) :: (nat_lit 124, { cls := Value.type "dict", data := Data.dict #[{ hash := PyData.keyHash P (Str.ofString "__module__"), key := Value.str (Str.ofString "__module__") (345 : Nat), val := Value.str (Str.ofString "chancore.errors") (304 : Nat) }, { hash := PyData.keyHash P (Str.ofString "__firstlineno__"), key := Value.str (Str.ofString "__firstlineno__") (349 : Nat), val := Value.int 82 (348 : Nat) }, { hash := PyData.keyHash P (Str.ofString "__static_attributes__"), key := Value.str (Str.ofString "__static_attributes__") (350 : Nat), val := Value.ref (123 : Nat) }, { hash := PyData.keyHash P (Str.ofString "__doc__"), key := Value.str (Str.ofString "__doc__") (351 : Nat), val := Value.none }] 2 }) :: (nat_lit 125, { cls := Value.type "type", data := Data.cls { name := Str.ofString "NameFault", bases := [Value.ref (112 : Nat)], mro := [Value.ref (125 : Nat), Value.ref (112 : Nat), Value.type "Exception", Value.type "BaseException", Value.type "object"], ns := 124, qualname := Str.ofString "NameFault" }, slots := #[some (Value.ref (116 : Nat)), none, some (Value.str (Str.ofString "NameFault") (338 : Nat)), some (Value.str (Str.ofString "NameFault") (346 : Nat)), some (Value.builtin "Exception.__new__"), some (Value.bool true)] }) :: (nat_lit 128, { cls := Value.type "tuple", data := Data.seq #[Value.ref (112 : Nat)] }) :: (nat_lit 135, { cls := Value.type "tuple", data := Data.seq #[] }) :: (nat_lit 136, { cls := Value.type "dict", data := Data.dict #[{ hash := PyData.keyHash P (Str.ofString "__module__"), key := Value.str (Str.ofString "__module__") (361 : Nat), val := Value.str (Str.ofString "chancore.errors") (304 : Nat) }, { hash := PyData.keyHash P (Str.ofString "__firstlineno__"), key := Value.str (Str.ofString "__firstlineno__") (365 : Nat), val := Value.int 84 (364 : Nat) }, { hash := PyData.keyHash P (Str.ofString "__static_attributes__"), key := Value.str (Str.ofString "__static_attributes__") (366 : Nat), val := Value.ref (135 : Nat) }, { hash := PyData.keyHash P (Str.ofString "__doc__"), key := Value.str (Str.ofString "__doc__") (367 : Nat), val := Value.none }] 2 }) :: (nat_lit 137, { cls := Value.type "type", data := Data.cls { name := Str.ofString "TypeFault", bases := [Value.ref (112 : Nat)], mro := [Value.ref (137 : Nat), Value.ref (112 : Nat), Value.type "Exception", Value.type "BaseException", Value.type "object"], ns := 136, qualname := Str.ofString "TypeFault" }, slots := #[some (Value.ref (128 : Nat)), none, some (Value.str (Str.ofString "TypeFault") (354 : Nat)), some (Value.str (Str.ofString "TypeFault") (362 : Nat)), some (Value.builtin "Exception.__new__"), some (Value.bool true)] }) :: (nat_lit 140, { cls := Value.type "tuple", data := Data.seq #[] }) :: (nat_lit 141, { cls := Value.type "tuple", data := Data.seq #[] }) :: (nat_lit 142, { cls := Value.type "tuple", data := Data.seq #[Value.str (Str.ofString "func") (372 : Nat), Value.ref (140 : Nat), Value.ref (141 : Nat), Value.bool false] }) :: (nat_lit 150, { cls := Value.type "tuple", data := Data.seq #[] }) :: (nat_lit 152, { cls := Value.type "tuple", data := Data.seq #[Value.str (Str.ofString "self") (389 : Nat), Value.str (Str.ofString "path") (390 : Nat), Value.str (Str.ofString "package") (391 : Nat), Value.str (Str.ofString "underlying") (392 : Nat), Value.str (Str.ofString "methods") (393 : Nat)] }) :: (nat_lit 153, { cls := Value.type "tuple", data := Data.seq #[] }) :: (nat_lit 155, { cls := Value.type "code", data := Data.fields #[Value.str (Str.ofString "__init__") (386 : Nat), Value.str (Str.ofString "NamedRow.__init__") (387 : Nat), Value.str (Str.ofString "/claim/cut.py") (388 : Nat), Value.int 90 (0 : Nat), Value.int 5 (0 : Nat), Value.int 0 (0 : Nat), Value.int 0 (0 : Nat), Value.int 3 (0 : Nat), Value.ref (150 : Nat), Value.bool true, Value.int 181 (0 : Nat), Value.ref (151 : Nat), Value.none, Value.ref (152 : Nat), Value.ref (153 : Nat), Value.ref (154 : Nat), Value.int 394 (0 : Nat), Value.int 90 (0 : Nat), Value.str (Str.ofString "/claim/cut.py") (395 : Nat)] }) :: (nat_lit 156, { cls := Value.type "function", data := Data.func { name := Str.ofString "__init__", qualname := Str.ofString "NamedRow.__init__", params := a156, body := .stmts b156, scope := s156, globals := 3, closure := [], defaults := Value.none, kwdefaults := Value.none, pyModule := Value.str (Str.ofString "chancore.world") (370 : Nat), code := Value.ref (155 : Nat) } }) :: (nat_lit 157, { cls := Value.type "tuple", data := Data.seq #[Value.str (Str.ofString "methods") (397 : Nat), Value.str (Str.ofString "package") (398 : Nat), Value.str (Str.ofString "path") (399 : Nat), Value.str (Str.ofString "underlying") (400 : Nat)] }) :: (nat_lit 158, { cls := Value.type "dict", data := Data.dict #[{ hash := PyData.keyHash P (Str.ofString "__module__"), key := Value.str (Str.ofString "__module__") (381 : Nat), val := Value.str (Str.ofString "chancore.world") (370 : Nat) }, { hash := PyData.keyHash P (Str.ofString "__firstlineno__"), key := Value.str (Str.ofString "__firstlineno__") (385 : Nat), val := Value.int 88 (384 : Nat) }, { hash := PyData.keyHash P (Str.ofString "__init__"), key := Value.str (Str.ofString "__init__") (396 : Nat), val := Value.ref (156 : Nat) }, { hash := PyData.keyHash P (Str.ofString "__static_attributes__"), key := Value.str (Str.ofString "__static_attributes__") (401 : Nat), val := Value.ref (157 : Nat) }, { hash := PyData.keyHash P (Str.ofString "__dict__"), key := Value.str (Str.ofString "__dict__") (403 : Nat), val := Value.ref (160 : Nat) }, { hash := PyData.keyHash P (Str.ofString "__weakref__"), key := Value.str (Str.ofString "__weakref__") (405 : Nat), val := Value.ref (161 : Nat) }, { hash := PyData.keyHash P (Str.ofString "__doc__"), key := Value.str (Str.ofString "__doc__") (406 : Nat), val := Value.none }] 4 }) :: (nat_lit 159, { cls := Value.type "type", data := Data.cls { name := Str.ofString "NamedRow", bases := [Value.type "object"], mro := [Value.ref (159 : Nat), Value.type "object"], ns := 158, qualname := Str.ofString "NamedRow" }, slots := #[none, none, some (Value.str (Str.ofString "NamedRow") (374 : Nat)), some (Value.str (Str.ofString "NamedRow") (382 : Nat)), some (Value.builtin "object.__new__"), some (Value.bool true)] }) :: (nat_lit 160, { cls := Value.type "getset_descriptor", data := Data.fields #[Value.str (Str.ofString "__dict__") (402 : Nat), Value.ref (159 : Nat), Value.builtin "function.__dict__", Value.builtin "function.__dict__#set"] }) :: (nat_lit 161, { cls := Value.type "getset_descriptor", data := Data.fields #[Value.str (Str.ofString "__weakref__") (404 : Nat), Value.ref (159 : Nat), Value.builtin "ExceptionGroup.__weakref__", Value.none] }) :: (nat_lit 164, { cls := Value.type "tuple", data := Data.seq #[] }) :: (nat_lit 166, { cls := Value.type "tuple", data := Data.seq #[Value.str (Str.ofString "text") (412 : Nat), Value.str (Str.ofString "adding") (413 : Nat), Value.str (Str.ofString "held") (414 : Nat), Value.str (Str.ofString "told") (415 : Nat), Value.str (Str.ofString "locks") (416 : Nat), Value.str (Str.ofString "waits") (417 : Nat)] }) :: (nat_lit 167, { cls := Value.type "tuple", data := Data.seq #[] }) :: (nat_lit 169, { cls := Value.type "code", data := Data.fields #[Value.str (Str.ofString "known_rows") (409 : Nat), Value.str (Str.ofString "known_rows") (410 : Nat), Value.str (Str.ofString "/claim/cut.py") (411 : Nat), Value.int 95 (0 : Nat), Value.int 0 (0 : Nat), Value.int 0 (0 : Nat), Value.int 0 (0 : Nat), Value.int 3 (0 : Nat), Value.ref (164 : Nat), Value.bool true, Value.int 181 (0 : Nat), Value.ref (165 : Nat), Value.none, Value.ref (166 : Nat), Value.ref (167 : Nat), Value.ref (168 : Nat), Value.int 418 (0 : Nat), Value.int 95 (0 : Nat), Value.str (Str.ofString "/claim/cut.py") (419 : Nat)] }) :: (nat_lit 170, { cls := Value.type "function", data := Data.func { name := Str.ofString "known_rows", qualname := Str.ofString "known_rows", params := a170, body := .stmts b170, scope := s170, globals := 3, closure := [], defaults := Value.none, kwdefaults := Value.none, pyModule := Value.str (Str.ofString "chancore.world") (370 : Nat), code := Value.ref (169 : Nat) } }) :: (nat_lit 178, { cls := Value.type "tuple", data := Data.seq #[Value.none] }) :: (nat_lit 179, { cls := Value.type "tuple", data := Data.seq #[] }) :: (nat_lit 181, { cls := Value.type "tuple", data := Data.seq #[Value.str (Str.ofString "self") (436 : Nat), Value.str (Str.ofString "packages") (437 : Nat)] }) :: (nat_lit 182, { cls := Value.type "tuple", data := Data.seq #[] }) :: (nat_lit 184, { cls := Value.type "code", data := Data.fields #[Value.str (Str.ofString "__init__") (433 : Nat), Value.str (Str.ofString "World.__init__") (434 : Nat), Value.str (Str.ofString "/claim/cut.py") (435 : Nat), Value.int 105 (0 : Nat), Value.int 2 (0 : Nat), Value.int 0 (0 : Nat), Value.int 0 (0 : Nat), Value.int 3 (0 : Nat), Value.ref (179 : Nat), Value.bool true, Value.int 181 (0 : Nat), Value.ref (180 : Nat), Value.none, Value.ref (181 : Nat), Value.ref (182 : Nat), Value.ref (183 : Nat), Value.int 438 (0 : Nat), Value.int 105 (0 : Nat), Value.str (Str.ofString "/claim/cut.py") (439 : Nat)] }) :: (nat_lit 185, { cls := Value.type "function", data := Data.func { name := Str.ofString "__init__", qualname := Str.ofString "World.__init__", params := a185, body := .stmts b185, scope := s185, globals := 3, closure := [], defaults := Value.ref (178 : Nat), kwdefaults := Value.none, pyModule := Value.str (Str.ofString "chancore.world") (370 : Nat), code := Value.ref (184 : Nat) } }) :: (nat_lit 186, { cls := Value.type "tuple", data := Data.seq #[] }) :: (nat_lit 188, { cls := Value.type "tuple", data := Data.seq #[Value.str (Str.ofString "self") (444 : Nat), Value.str (Str.ofString "told") (445 : Nat), Value.str (Str.ofString "row") (446 : Nat)] }) :: (nat_lit 189, { cls := Value.type "tuple", data := Data.seq #[] }) :: (nat_lit 191, { cls := Value.type "code", data := Data.fields #[Value.str (Str.ofString "base_of") (441 : Nat), Value.str (Str.ofString "World.base_of") (442 : Nat), Value.str (Str.ofString "/claim/cut.py") (443 : Nat), Value.int 120 (0 : Nat), Value.int 2 (0 : Nat), Value.int 0 (0 : Nat), Value.int 0 (0 : Nat), Value.int 3 (0 : Nat), Value.ref (186 : Nat), Value.bool true, Value.int 181 (0 : Nat), Value.ref (187 : Nat), Value.none, Value.ref (188 : Nat), Value.ref (189 : Nat), Value.ref (190 : Nat), Value.int 447 (0 : Nat), Value.int 120 (0 : Nat), Value.str (Str.ofString "/claim/cut.py") (448 : Nat)] }) :: (nat_lit 192, { cls := Value.type "function", data := Data.func { name := Str.ofString "base_of", qualname := Str.ofString "World.base_of", params := a192, body := .stmts b192, scope := s192, globals := 3, closure := [], defaults := Value.none, kwdefaults := Value.none, pyModule := Value.str (Str.ofString "chancore.world") (370 : Nat), code := Value.ref (191 : Nat) } }) :: (nat_lit 193, { cls := Value.type "tuple", data := Data.seq #[] }) :: (nat_lit 195, { cls := Value.type "tuple", data := Data.seq #[Value.str (Str.ofString "self") (453 : Nat), Value.str (Str.ofString "entry") (454 : Nat)] }) :: (nat_lit 196, { cls := Value.type "tuple", data := Data.seq #[] }) :: (nat_lit 198, { cls := Value.type "code", data := Data.fields #[Value.str (Str.ofString "settled") (450 : Nat), Value.str (Str.ofString "World.settled") (451 : Nat), Value.str (Str.ofString "/claim/cut.py") (452 : Nat), Value.int 132 (0 : Nat), Value.int 2 (0 : Nat), Value.int 0 (0 : Nat), Value.int 0 (0 : Nat), Value.int 3 (0 : Nat), Value.ref (193 : Nat), Value.bool true, Value.int 181 (0 : Nat), Value.ref (194 : Nat), Value.none, Value.ref (195 : Nat), Value.ref (196 : Nat), Value.ref (197 : Nat), Value.int 455 (0 : Nat), Value.int 132 (0 : Nat), Value.str (Str.ofString "/claim/cut.py") (456 : Nat)] }) :: (nat_lit 199, { cls := Value.type "function", data := Data.func { name := Str.ofString "settled", qualname := Str.ofString "World.settled", params := a199, body := .stmts b199, scope := s199, globals := 3, closure := [], defaults := Value.none, kwdefaults := Value.none, pyModule := Value.str (Str.ofString "chancore.world") (370 : Nat), code := Value.ref (198 : Nat) } }) :: (nat_lit 200, { cls := Value.type "tuple", data := Data.seq #[Value.str (Str.ofString "bodies") (458 : Nat), Value.str (Str.ofString "consts") (459 : Nat), Value.str (Str.ofString "files") (460 : Nat), Value.str (Str.ofString "funcs") (461 : Nat), Value.str (Str.ofString "globals") (462 : Nat), Value.str (Str.ofString "is_whole") (463 : Nat), Value.str (Str.ofString "late_keys") (464 : Nat), Value.str (Str.ofString "named") (465 : Nat), Value.str (Str.ofString "order") (466 : Nat), Value.str (Str.ofString "packages") (467 : Nat), Value.str (Str.ofString "scopes") (468 : Nat), Value.str (Str.ofString "settle") (469 : Nat), Value.str (Str.ofString "starts") (470 : Nat)] }) :: (nat_lit 201, { cls := Value.type "dict", data := Data.dict #[{ hash := PyData.keyHash P (Str.ofString "__module__"), key := Value.str (Str.ofString "__module__") (428 : Nat), val := Value.str (Str.ofString "chancore.world") (370 : Nat) }, { hash := PyData.keyHash P (Str.ofString "__firstlineno__"), key := Value.str (Str.ofString "__firstlineno__") (432 : Nat), val := Value.int 103 (431 : Nat) }, { hash := PyData.keyHash P (Str.ofString "__init__"), key := Value.str (Str.ofString "__init__") (440 : Nat), val := Value.ref (185 : Nat) }, { hash := PyData.keyHash P (Str.ofString "base_of"), key := Value.str (Str.ofString "base_of") (449 : Nat), val := Value.ref (192 : Nat) }, { hash := PyData.keyHash P (Str.ofString "settled"), key := Value.str (Str.ofString "settled") (457 : Nat), val := Value.ref (199 : Nat) }, { hash := PyData.keyHash P (Str.ofString "__static_attributes__"), key := Value.str (Str.ofString "__static_attributes__") (471 : Nat), val := Value.ref (200 : Nat) }, { hash := PyData.keyHash P (Str.ofString "__dict__"), key := Value.str (Str.ofString "__dict__") (473 : Nat), val := Value.ref (203 : Nat) }, { hash := PyData.keyHash P (Str.ofString "__weakref__"), key := Value.str (Str.ofString "__weakref__") (475 : Nat), val := Value.ref (204 : Nat) }, { hash := PyData.keyHash P (Str.ofString "__doc__"), key := Value.str (Str.ofString "__doc__") (476 : Nat), val := Value.none }] 4 }) :: (nat_lit 202, { cls := Value.type "type", data := Data.cls { name := Str.ofString "World", bases := [Value.type "object"], mro := [Value.ref (202 : Nat), Value.type "object"], ns := 201, qualname := Str.ofString "World" }, slots := #[none, none, some (Value.str (Str.ofString "World") (421 : Nat)), some (Value.str (Str.ofString "World") (429 : Nat)), some (Value.builtin "object.__new__"), some (Value.bool true)] }) :: (nat_lit 203, { cls := Value.type "getset_descriptor", data := Data.fields #[Value.str (Str.ofString "__dict__") (472 : Nat), Value.ref (202 : Nat), Value.builtin "function.__dict__", Value.builtin "function.__dict__#set"] }) :: (nat_lit 204, { cls := Value.type "getset_descriptor", data := Data.fields #[Value.str (Str.ofString "__weakref__") (474 : Nat), Value.ref (202 : Nat), Value.builtin "ExceptionGroup.__weakref__", Value.none] }) :: (nat_lit 207, { cls := Value.type "tuple", data := Data.seq #[] }) :: (nat_lit 209, { cls := Value.type "tuple", data := Data.seq #[Value.str (Str.ofString "script") (484 : Nat), Value.str (Str.ofString "k") (485 : Nat), Value.str (Str.ofString "cell") (486 : Nat), Value.str (Str.ofString "big") (487 : Nat), Value.str (Str.ofString "mixed") (488 : Nat)] }) :: (nat_lit 210, { cls := Value.type "tuple", data := Data.seq #[] }) :: (nat_lit 212, { cls := Value.type "code", data := Data.fields #[Value.str (Str.ofString "_law_pool") (481 : Nat), Value.str (Str.ofString "_law_pool") (482 : Nat), Value.str (Str.ofString "/claim/cut.py") (483 : Nat), Value.int 135 (0 : Nat), Value.int 2 (0 : Nat), Value.int 0 (0 : Nat), Value.int 0 (0 : Nat), Value.int 3 (0 : Nat), Value.ref (207 : Nat), Value.bool true, Value.int 181 (0 : Nat), Value.ref (208 : Nat), Value.none, Value.ref (209 : Nat), Value.ref (210 : Nat), Value.ref (211 : Nat), Value.int 489 (0 : Nat), Value.int 135 (0 : Nat), Value.str (Str.ofString "/claim/cut.py") (490 : Nat)] }) :: (nat_lit 213, { cls := Value.type "function", data := Data.func { name := Str.ofString "_law_pool", qualname := Str.ofString "_law_pool", params := a213, body := .stmts b213, scope := s213, globals := 3, closure := [], defaults := Value.none, kwdefaults := Value.none, pyModule := Value.str (Str.ofString "law_on0017_01") (479 : Nat), code := Value.ref (212 : Nat) } }) :: (nat_lit 214, { cls := Value.type "tuple", data := Data.seq #[] }) :: (nat_lit 216, { cls := Value.type "tuple", data := Data.seq #[Value.str (Str.ofString "source") (495 : Nat), Value.str (Str.ofString "top") (496 : Nat), Value.str (Str.ofString "drawn") (497 : Nat)] }) :: (nat_lit 217, { cls := Value.type "tuple", data := Data.seq #[] }) :: (nat_lit 219, { cls := Value.type "code", data := Data.fields #[Value.str (Str.ofString "_law_take") (492 : Nat), Value.str (Str.ofString "_law_take") (493 : Nat), Value.str (Str.ofString "/claim/cut.py") (494 : Nat), Value.int 142 (0 : Nat), Value.int 2 (0 : Nat), Value.int 0 (0 : Nat), Value.int 0 (0 : Nat), Value.int 3 (0 : Nat), Value.ref (214 : Nat), Value.bool true, Value.int 181 (0 : Nat), Value.ref (215 : Nat), Value.none, Value.ref (216 : Nat), Value.ref (217 : Nat), Value.ref (218 : Nat), Value.int 498 (0 : Nat), Value.int 142 (0 : Nat), Value.str (Str.ofString "/claim/cut.py") (499 : Nat)] }) :: (nat_lit 220, { cls := Value.type "function", data := Data.func { name := Str.ofString "_law_take", qualname := Str.ofString "_law_take", params := a220, body := .stmts b220, scope := s220, globals := 3, closure := [], defaults := Value.none, kwdefaults := Value.none, pyModule := Value.str (Str.ofString "law_on0017_01") (479 : Nat), code := Value.ref (219 : Nat) } }) :: (nat_lit 221, { cls := Value.type "tuple", data := Data.seq #[] }) :: (nat_lit 223, { cls := Value.type "tuple", data := Data.seq #[Value.str (Str.ofString "source") (504 : Nat), Value.str (Str.ofString "things") (505 : Nat)] }) :: (nat_lit 224, { cls := Value.type "tuple", data := Data.seq #[] }) :: (nat_lit 226, { cls := Value.type "code", data := Data.fields #[Value.str (Str.ofString "_law_one") (501 : Nat), Value.str (Str.ofString "_law_one") (502 : Nat), Value.str (Str.ofString "/claim/cut.py") (503 : Nat), Value.int 149 (0 : Nat), Value.int 2 (0 : Nat), Value.int 0 (0 : Nat), Value.int 0 (0 : Nat), Value.int 3 (0 : Nat), Value.ref (221 : Nat), Value.bool true, Value.int 181 (0 : Nat), Value.ref (222 : Nat), Value.none, Value.ref (223 : Nat), Value.ref (224 : Nat), Value.ref (225 : Nat), Value.int 506 (0 : Nat), Value.int 149 (0 : Nat), Value.str (Str.ofString "/claim/cut.py") (507 : Nat)] }) :: (nat_lit 227, { cls := Value.type "function", data := Data.func { name := Str.ofString "_law_one", qualname := Str.ofString "_law_one", params := a227, body := .stmts b227, scope := s227, globals := 3, closure := [], defaults := Value.none, kwdefaults := Value.none, pyModule := Value.str (Str.ofString "law_on0017_01") (479 : Nat), code := Value.ref (226 : Nat) } }) :: (nat_lit 228, { cls := Value.type "tuple", data := Data.seq #[Value.str (Str.ofString "int") (509 : Nat), Value.str (Str.ofString "int") (510 : Nat)] }) :: (nat_lit 229, { cls := Value.type "tuple", data := Data.seq #[Value.str (Str.ofString "int") (514 : Nat), Value.str (Str.ofString "int") (515 : Nat)] }) :: (nat_lit 230, { cls := Value.type "tuple", data := Data.seq #[Value.str (Str.ofString "array") (512 : Nat), Value.int 3 (513 : Nat), Value.ref (229 : Nat)] }) :: (nat_lit 231, { cls := Value.type "tuple", data := Data.seq #[Value.str (Str.ofString "int") (519 : Nat), Value.str (Str.ofString "int") (520 : Nat)] }) :: (nat_lit 232, { cls := Value.type "tuple", data := Data.seq #[Value.str (Str.ofString "a") (518 : Nat), Value.ref (231 : Nat), Value.bool false] }) :: (nat_lit 233, { cls := Value.type "tuple", data := Data.seq #[Value.str (Str.ofString "int") (524 : Nat), Value.str (Str.ofString "int") (525 : Nat)] }) :: (nat_lit 234, { cls := Value.type "tuple", data := Data.seq #[Value.str (Str.ofString "array") (522 : Nat), Value.int 3 (523 : Nat), Value.ref (233 : Nat)] }) :: (nat_lit 235, { cls := Value.type "tuple", data := Data.seq #[Value.str (Str.ofString "b") (521 : Nat), Value.ref (234 : Nat), Value.bool false] }) :: (nat_lit 236, { cls := Value.type "tuple", data := Data.seq #[Value.ref (232 : Nat), Value.ref (235 : Nat)] }) :: (nat_lit 237, { cls := Value.type "tuple", data := Data.seq #[Value.str (Str.ofString "struct") (517 : Nat), Value.ref (236 : Nat)] }) :: (nat_lit 238, { cls := Value.type "tuple", data := Data.seq #[Value.str (Str.ofString "named") (527 : Nat), Value.str (Str.ofString "main.N") (528 : Nat)] }) :: (nat_lit 239, { cls := Value.type "tuple", data := Data.seq #[] }) :: (nat_lit 241, { cls := Value.type "tuple", data := Data.seq #[] }) :: (nat_lit 242, { cls := Value.type "tuple", data := Data.seq #[] }) :: (nat_lit 244, { cls := Value.type "code", data := Data.fields #[Value.str (Str.ofString "_law_types") (530 : Nat), Value.str (Str.ofString "_law_types") (531 : Nat), Value.str (Str.ofString "/claim/cut.py") (532 : Nat), Value.int 155 (0 : Nat), Value.int 0 (0 : Nat), Value.int 0 (0 : Nat), Value.int 0 (0 : Nat), Value.int 3 (0 : Nat), Value.ref (239 : Nat), Value.bool true, Value.int 181 (0 : Nat), Value.ref (240 : Nat), Value.none, Value.ref (241 : Nat), Value.ref (242 : Nat), Value.ref (243 : Nat), Value.int 533 (0 : Nat), Value.int 155 (0 : Nat), Value.str (Str.ofString "/claim/cut.py") (534 : Nat)] }) :: (nat_lit 245, { cls := Value.type "function", data := Data.func { name := Str.ofString "_law_types", qualname := Str.ofString "_law_types", params := a245, body := .stmts b245, scope := s245, globals := 3, closure := [], defaults := Value.none, kwdefaults := Value.none, pyModule := Value.str (Str.ofString "law_on0017_01") (479 : Nat), code := Value.ref (244 : Nat) } }) :: (nat_lit 246, { cls := Value.type "tuple", data := Data.seq #[] }) :: (nat_lit 248, { cls := Value.type "tuple", data := Data.seq #[Value.str (Str.ofString "number") (539 : Nat)] }) :: (nat_lit 249, { cls := Value.type "tuple", data := Data.seq #[] }) :: (nat_lit 251, { cls := Value.type "code", data := Data.fields #[Value.str (Str.ofString "_law_local") (536 : Nat), Value.str (Str.ofString "_law_local") (537 : Nat), Value.str (Str.ofString "/claim/cut.py") (538 : Nat), Value.int 157 (0 : Nat), Value.int 1 (0 : Nat), Value.int 0 (0 : Nat), Value.int 0 (0 : Nat), Value.int 3 (0 : Nat), Value.ref (246 : Nat), Value.bool true, Value.int 181 (0 : Nat), Value.ref (247 : Nat), Value.none, Value.ref (248 : Nat), Value.ref (249 : Nat), Value.ref (250 : Nat), Value.int 540 (0 : Nat), Value.int 157 (0 : Nat), Value.str (Str.ofString "/claim/cut.py") (541 : Nat)] }) :: (nat_lit 252, { cls := Value.type "function", data := Data.func { name := Str.ofString "_law_local", qualname := Str.ofString "_law_local", params := a252, body := .stmts b252, scope := s252, globals := 3, closure := [], defaults := Value.none, kwdefaults := Value.none, pyModule := Value.str (Str.ofString "law_on0017_01") (479 : Nat), code := Value.ref (251 : Nat) } }) :: (nat_lit 253, { cls := Value.type "tuple", data := Data.seq #[] }) :: (nat_lit 255, { cls := Value.type "tuple", data := Data.seq #[Value.str (Str.ofString "source") (546 : Nat), Value.str (Str.ofString "number") (547 : Nat), Value.str (Str.ofString "place") (548 : Nat), Value.str (Str.ofString "root") (549 : Nat), Value.str (Str.ofString "told") (550 : Nat), Value.str (Str.ofString "turn") (551 : Nat), Value.str (Str.ofString "kind") (552 : Nat), Value.str (Str.ofString "at") (553 : Nat)] }) :: (nat_lit 256, { cls := Value.type "tuple", data := Data.seq #[] }) :: (nat_lit 258, { cls := Value.type "code", data := Data.fields #[Value.str (Str.ofString "_law_place") (543 : Nat), Value.str (Str.ofString "_law_place") (544 : Nat), Value.str (Str.ofString "/claim/cut.py") (545 : Nat), Value.int 159 (0 : Nat), Value.int 1 (0 : Nat), Value.int 0 (0 : Nat), Value.int 0 (0 : Nat), Value.int 3 (0 : Nat), Value.ref (253 : Nat), Value.bool true, Value.int 181 (0 : Nat), Value.ref (254 : Nat), Value.none, Value.ref (255 : Nat), Value.ref (256 : Nat), Value.ref (257 : Nat), Value.int 554 (0 : Nat), Value.int 159 (0 : Nat), Value.str (Str.ofString "/claim/cut.py") (555 : Nat)] }) :: (nat_lit 259, { cls := Value.type "function", data := Data.func { name := Str.ofString "_law_place", qualname := Str.ofString "_law_place", params := a259, body := .stmts b259, scope := s259, globals := 3, closure := [], defaults := Value.none, kwdefaults := Value.none, pyModule := Value.str (Str.ofString "law_on0017_01") (479 : Nat), code := Value.ref (258 : Nat) } }) :: (nat_lit 260, { cls := Value.type "tuple", data := Data.seq #[] }) :: (nat_lit 262, { cls := Value.type "tuple", data := Data.seq #[Value.str (Str.ofString "told") (560 : Nat)] }) :: (nat_lit 263, { cls := Value.type "tuple", data := Data.seq #[] }) :: (nat_lit 265, { cls := Value.type "code", data := Data.fields #[Value.str (Str.ofString "_law_kind") (557 : Nat), Value.str (Str.ofString "_law_kind") (558 : Nat), Value.str (Str.ofString "/claim/cut.py") (559 : Nat), Value.int 176 (0 : Nat), Value.int 1 (0 : Nat), Value.int 0 (0 : Nat), Value.int 0 (0 : Nat), Value.int 3 (0 : Nat), Value.ref (260 : Nat), Value.bool true, Value.int 181 (0 : Nat), Value.ref (261 : Nat), Value.none, Value.ref (262 : Nat), Value.ref (263 : Nat), Value.ref (264 : Nat), Value.int 561 (0 : Nat), Value.int 176 (0 : Nat), Value.str (Str.ofString "/claim/cut.py") (562 : Nat)] }) :: (nat_lit 266, { cls := Value.type "function", data := Data.func { name := Str.ofString "_law_kind", qualname := Str.ofString "_law_kind", params := a266, body := .stmts b266, scope := s266, globals := 3, closure := [], defaults := Value.none, kwdefaults := Value.none, pyModule := Value.str (Str.ofString "law_on0017_01") (479 : Nat), code := Value.ref (265 : Nat) } }) :: (nat_lit 267, { cls := Value.type "tuple", data := Data.seq #[] }) :: (nat_lit 269, { cls := Value.type "tuple", data := Data.seq #[Value.str (Str.ofString "source") (567 : Nat), Value.str (Str.ofString "due") (568 : Nat), Value.str (Str.ofString "way") (569 : Nat), Value.str (Str.ofString "place") (570 : Nat), Value.str (Str.ofString "root") (571 : Nat), Value.str (Str.ofString "is_whole") (572 : Nat)] }) :: (nat_lit 270, { cls := Value.type "tuple", data := Data.seq #[] }) :: (nat_lit 272, { cls := Value.type "code", data := Data.fields #[Value.str (Str.ofString "_law_value") (564 : Nat), Value.str (Str.ofString "_law_value") (565 : Nat), Value.str (Str.ofString "/claim/cut.py") (566 : Nat), Value.int 178 (0 : Nat), Value.int 2 (0 : Nat), Value.int 0 (0 : Nat), Value.int 0 (0 : Nat), Value.int 3 (0 : Nat), Value.ref (267 : Nat), Value.bool true, Value.int 181 (0 : Nat), Value.ref (268 : Nat), Value.none, Value.ref (269 : Nat), Value.ref (270 : Nat), Value.ref (271 : Nat), Value.int 573 (0 : Nat), Value.int 178 (0 : Nat), Value.str (Str.ofString "/claim/cut.py") (574 : Nat)] }) :: (nat_lit 273, { cls := Value.type "function", data := Data.func { name := Str.ofString "_law_value", qualname := Str.ofString "_law_value", params := a273, body := .stmts b273, scope := s273, globals := 3, closure := [], defaults := Value.none, kwdefaults := Value.none, pyModule := Value.str (Str.ofString "law_on0017_01") (479 : Nat), code := Value.ref (272 : Nat) } }) :: (nat_lit 274, { cls := Value.type "tuple", data := Data.seq #[] }) :: (nat_lit 277, { cls := Value.type "code", data := Data.fields #[Value.str (Str.ofString "_law_statement") (576 : Nat), Value.str (Str.ofString "_law_statement") (577 : Nat), Value.str (Str.ofString "/claim/cut.py") (578 : Nat), Value.int 191 (0 : Nat), Value.int 3 (0 : Nat), Value.int 0 (0 : Nat), Value.int 0 (0 : Nat), Value.int 3 (0 : Nat), Value.ref (274 : Nat), Value.bool true, Value.int 181 (0 : Nat), Value.ref (275 : Nat), Value.none, Value.none, Value.none, Value.ref (276 : Nat), Value.int 579 (0 : Nat), Value.int 191 (0 : Nat), Value.str (Str.ofString "/claim/cut.py") (580 : Nat)] }) :: (nat_lit 278, { cls := Value.type "function", data := Data.func { name := Str.ofString "_law_statement", qualname := Str.ofString "_law_statement", params := a278, body := .stmts b278, scope := s278, globals := 3, closure := [], defaults := Value.none, kwdefaults := Value.none, pyModule := Value.str (Str.ofString "law_on0017_01") (479 : Nat), code := Value.ref (277 : Nat) } }) :: (nat_lit 279, { cls := Value.type "tuple", data := Data.seq #[] }) :: (nat_lit 282, { cls := Value.type "code", data := Data.fields #[Value.str (Str.ofString "_law_told") (582 : Nat), Value.str (Str.ofString "_law_told") (583 : Nat), Value.str (Str.ofString "/claim/cut.py") (584 : Nat), Value.int 211 (0 : Nat), Value.int 3 (0 : Nat), Value.int 0 (0 : Nat), Value.int 0 (0 : Nat), Value.int 3 (0 : Nat), Value.ref (279 : Nat), Value.bool true, Value.int 181 (0 : Nat), Value.ref (280 : Nat), Value.none, Value.none, Value.none, Value.ref (281 : Nat), Value.int 585 (0 : Nat), Value.int 211 (0 : Nat), Value.str (Str.ofString "/claim/cut.py") (586 : Nat)] }) :: (nat_lit 283, { cls := Value.type "function", data := Data.func { name := Str.ofString "_law_told", qualname := Str.ofString "_law_told", params := a283, body := .stmts b283, scope := s283, globals := 3, closure := [], defaults := Value.none, kwdefaults := Value.none, pyModule := Value.str (Str.ofString "law_on0017_01") (479 : Nat), code := Value.ref (282 : Nat) } }) :: (nat_lit 284, { cls := Value.type "tuple", data := Data.seq #[] }) :: (nat_lit 287, { cls := Value.type "code", data := Data.fields #[Value.str (Str.ofString "law") (588 : Nat), Value.str (Str.ofString "law") (589 : Nat), Value.str (Str.ofString "/claim/cut.py") (590 : Nat), Value.int 216 (0 : Nat), Value.int 1 (0 : Nat), Value.int 0 (0 : Nat), Value.int 0 (0 : Nat), Value.int 3 (0 : Nat), Value.ref (284 : Nat), Value.bool true, Value.int 181 (0 : Nat), Value.ref (285 : Nat), Value.none, Value.none, Value.none, Value.ref (286 : Nat), Value.int 591 (0 : Nat), Value.int 216 (0 : Nat), Value.str (Str.ofString "/claim/cut.py") (592 : Nat)] }) :: (nat_lit 288, { cls := Value.type "function", data := Data.func { name := Str.ofString "law", qualname := Str.ofString "law", params := a288, body := .stmts b288, scope := s288, globals := 3, closure := [], defaults := Value.none, kwdefaults := Value.none, pyModule := Value.str (Str.ofString "law_on0017_01") (479 : Nat), code := Value.ref (287 : Nat) } }) :: [] : List (Nat × Obj))

end
--PART A02Base
section
noncomputable abbrev Led := List (Addr × Obj)
noncomputable abbrev tupO (vs : List Value) : Obj := { cls := .type "tuple", data := .seq vs.toArray }
noncomputable abbrev rnd (dp un : Nat) (gd : Option (List Code)) (env : Env) (outer : List Env) : Around := { handled := none, depth := dp, frames := some (env :: outer), guards := gd, units := un }

/-- a def's contract: G the ghost letters, pre over the ledger and the arguments, post over the ledger behind and the result -/
noncomputable def Con {G : Type} (w : World) (f : Addr) (dz uz : Nat) (pre : G → Led → List Value → Prop) (post : G → Led → Value → Prop) : Prop :=
  ∀ (g : G) (mean : ExcName → Option Value) (mg mb : Str → Option Value) (env : Env) (outer : List Env) (gd : Option (List Code)) (A₀ : Around) (base h₀ : Heap) (L : Addr) (m : Str → Option Value) (news : Led) (s : Shared) (vs : List Value)
    (Q E : Value → Shared → Prop),
    Below A₀ base outer h₀ → Fr h₀ L s.heap m → (hd.heap_39 w.params).In h₀ → News h₀ L s.heap news → Top hd.view_39 (looseW hd.view_39 [Str.ofString "ChanError"]) mean mg mb h₀ → env.frame = some L → env.scope.kind = .function → pre g news vs →
    (∀ r news' h' tk', Fr h₀ L h' m → News h₀ L h' news' → post g news' r → Q r { s with heap := h', toks := tk' }) →
    wpAny (model PySem.Challenge.rw_on0017_01.row.prog w) (rnd dz uz gd env outer) (call (.ref f) vs) Q E s

theorem wpAny_less {α : Type} {M : Model} {A A' : Around} {t : Sem α} {Q : α → Shared → Prop} {E : Value → Shared → Prop} {s : Shared} (h : wpAny M A' t Q E s)
    (h1 : A.handled = A'.handled) (h2 : A.depth ≤ A'.depth) (h3 : A.frames = A'.frames) (h4 : A.guards = A'.guards) (h5 : A.units ≤ A'.units) : wpAny M A t Q E s := fun Γ p hΓ =>
  h Γ p ⟨hΓ.1.trans h1, Nat.le_trans hΓ.2.1 h2, fun l hl => hΓ.2.2.1 l (h3.trans hl), fun g hg => hΓ.2.2.2.1 g (h4.trans hg), Nat.le_trans hΓ.2.2.2.2 h5⟩

theorem Con.use {G : Type} {w : World} {f : Addr} {dz uz : Nat} {pre : G → Led → List Value → Prop} {post : G → Led → Value → Prop} (C : Con w f dz uz pre post) (g : G)
    {mean : ExcName → Option Value} {mg mb : Str → Option Value} {A : Around} {env : Env} {outer : List Env} {A₀ : Around} {base h₀ : Heap} {L : Addr} {m : Str → Option Value} {news news₁ : Led} {s : Shared} {vs : List Value} {Q E : Value → Shared → Prop}
    (B : Below A₀ base outer h₀) (F : Fr h₀ L s.heap m) (X : (hd.heap_39 w.params).In h₀) (N : News h₀ L s.heap news₁) (T : Top hd.view_39 (looseW hd.view_39 [Str.ofString "ChanError"]) mean mg mb h₀)
    (hf : env.frame = some L) (hk : env.scope.kind = .function) (a1 : A.handled = none) (a2 : A.depth ≤ dz) (a3 : A.frames = some (env :: outer)) (a4 : A.units ≤ uz)
    (hs : ∀ p ∈ news, p ∈ news₁) (hp : pre g news vs)
    (k : ∀ r news' h' tk', Fr h₀ L h' m → News h₀ L h' news' → post g news' r → Q r { s with heap := h', toks := tk' }) :
    wpAny (model PySem.Challenge.rw_on0017_01.row.prog w) A (call (.ref f) vs) Q E s :=
  wpAny_less (C g mean mg mb env outer A.guards A₀ base h₀ L m news s vs Q E B F X (fun p h => N p (hs p h)) T hf hk hp k) a1 a2 a3 rfl a4

/-- one entry of a ledger taken out -/
inductive Pick (q : Addr × Obj) : Led → Led → Prop
  | head {r : Led} : Pick q (q :: r) r
  | tail {p : Addr × Obj} {l r : Led} : Pick q l r → Pick q (p :: l) (p :: r)
  | app {t l r : Led} : Pick q l r → Pick q (t ++ l) (t ++ r)
theorem Pick.sub {q : Addr × Obj} {l r : Led} (h : Pick q l r) : ∀ p ∈ q :: r, p ∈ l := by
  induction h with
  | head => exact fun _ h => h
  | tail _ ih =>
    intro p hp
    rcases List.mem_cons.mp hp with rfl | hp
    · exact .tail _ (ih _ (.head _))
    · rcases List.mem_cons.mp hp with rfl | hp
      · exact .head _
      · exact .tail _ (ih _ (.tail _ hp))
  | app _ ih =>
    intro p hp
    rcases List.mem_cons.mp hp with rfl | hp
    · exact List.mem_append.mpr (.inr (ih _ (.head _)))
    · rcases List.mem_append.mp hp with hp | hp
      · exact List.mem_append.mpr (.inl hp)
      · exact List.mem_append.mpr (.inr (ih _ (.tail _ hp)))
theorem fm (a : Int) {b : Int} (h : 0 < b) : 0 ≤ a.fmod b ∧ a.fmod b < b := ⟨Int.fmod_nonneg_of_pos _ h, Int.fmod_lt_of_pos _ h⟩
theorem bits31 {a : Int} (h : 0 ≤ a ∧ a < 2147483647) : Builtin.Int.intBits a ≤ 64 := by
  unfold Builtin.Int.intBits
  split
  · decide
  · have h1 : a.natAbs.log2 < 63 := by
      rw [Nat.log2_lt (by simp_all)]
      omega
    omega
theorem mulOk31 {a b : Int} (h : 0 ≤ a ∧ a < 2147483647) : IntMulOk a b := .of_left (bits31 h)

end
--PART A03Rel
section
/-- a ledger lies in another -/
noncomputable def Sub (a b : Led) : Prop := ∀ p ∈ a, p ∈ b
noncomputable def seqData : PySem.Data → Bool
  | .seq .. => true
  | _ => false
/-- a tuple -/
noncomputable def TupO (o : Obj) : Prop := o.cls = .type "tuple" ∧ seqData o.data = true
/-- its tuples lie in another -/
noncomputable def SubT (a b : Led) : Prop := ∀ p ∈ a, TupO p.2 → p ∈ b
theorem Sub.T {a b : Led} (h : Sub a b) : SubT a b := fun p m _ => h p m
theorem SubT.refl {a : Led} : SubT a a := fun _ h _ => h
theorem SubT.tup {a b : Led} {x : Addr} {vs : List Value} (h : SubT a b) (m : (x, tupO vs) ∈ a) : (x, tupO vs) ∈ b := h _ m ⟨rfl, rfl⟩
theorem Sub.mem {a b : Led} {q : Addr × Obj} (h : Sub a b) (m : q ∈ a) : q ∈ b := h _ m
theorem Sub.refl {a : Led} : Sub a a := fun _ h => h
theorem Sub.trans {a b c : Led} (h : Sub a b) (k : Sub b c) : Sub a c := fun p m => k p (h p m)
theorem Sub.tl {a b : Led} {q : Addr × Obj} (h : Sub a b) : Sub a (q :: b) := fun p m => .tail _ (h p m)
/-- nothing of a ledger lies at a -/
theorem pj_l {P Q : Prop} (h : P ∧ Q) : P := h.1
theorem pj_r {P Q : Prop} (h : P ∧ Q) : Q := h.2
theorem pj_2 {a b Q : Prop} (h : a ∧ b ∧ Q) : Q := h.2.2
theorem pj_4 {a b c d Q : Prop} (h : a ∧ b ∧ c ∧ d ∧ Q) : Q := h.2.2.2.2
theorem pj_8 {a b c d e f g i Q : Prop} (h : a ∧ b ∧ c ∧ d ∧ e ∧ f ∧ g ∧ i ∧ Q) : Q := pj_4 (pj_4 h)
theorem pj_16 {a b c d e f g i j k l m n o p q Q : Prop} (h : a ∧ b ∧ c ∧ d ∧ e ∧ f ∧ g ∧ i ∧ j ∧ k ∧ l ∧ m ∧ n ∧ o ∧ p ∧ q ∧ Q) : Q := pj_8 (pj_8 h)
theorem lt_next {l : Led} {d x : Addr} (h : ∀ p ∈ l, p.1 < d) (k : d < x) : ∀ p ∈ ((d, tupO []) : Addr × Obj) :: l, p.1 < x := fun p m => by
  rcases List.mem_cons.mp m with rfl | m
  · exact k
  · exact Nat.lt_trans (h p m) k
theorem ne_new {l : Led} {a D : Addr} {o : Obj} (h : ∀ p ∈ l, p.1 < D) (m : (a, o) ∈ l) : @Ne Nat a D := Nat.ne_of_lt (h _ m)
theorem ne_new' {l : Led} {a D : Addr} {o : Obj} (h : ∀ p ∈ l, p.1 < D) (m : (a, o) ∈ l) : @Ne Nat D a := Nat.ne_of_gt (h _ m)
theorem allne_new {l fr : Led} {D : Addr} (h : ∀ p ∈ l, p.1 < D) (s : ∀ p ∈ fr, p ∈ l) : ∀ e ∈ fr, @Ne Nat e.1 D := fun e me => Nat.ne_of_lt (h e (s e me))
theorem suf_rf {l : Led} : ∀ p ∈ l, p ∈ l := fun _ h => h
theorem suf_tl {l r : Led} {q : Addr × Obj} (h : ∀ p ∈ l, p ∈ r) : ∀ p ∈ l, p ∈ q :: r := fun p m => .tail _ (h p m)
theorem lt_sub {l fr : Led} {D : Addr} (h : ∀ p ∈ l, p.1 < D) (s : ∀ p ∈ fr, p ∈ l) : ∀ p ∈ fr, p.1 < D := fun e me => h e (s e me)
theorem at_hd {p : Addr × Obj} {l : Led} : p ∈ p :: l := .head _
theorem at_tl {p q : Addr × Obj} {l : Led} (h : p ∈ l) : p ∈ q :: l := .tail _ h
noncomputable def Off (a : Addr) (l : Led) : Prop := ∀ p ∈ l, p.2.cls = .type "tuple" ∨ p.1 ≠ a
theorem Off.nil {a : Addr} : Off a [] := fun _ h => nomatch h
theorem Off.tup {a b : Addr} {vs : List Value} {l : Led} (h : Off a l) : Off a ((b, tupO vs) :: l) := fun p m => by
  rcases List.mem_cons.mp m with rfl | m
  · exact .inl rfl
  · exact h p m
theorem Off.ne {a b : Addr} {o : Obj} {l : Led} (k : b ≠ a) (h : Off a l) : Off a ((b, o) :: l) := fun p m => by
  rcases List.mem_cons.mp m with rfl | m
  · exact .inr k
  · exact h p m
theorem Off.ok {a L : Addr} {o : Obj} {l : Led} {h₀ h : Heap} (k : Off a l) (N : News h₀ L h ((a, o) :: l)) (ho : o.cls ≠ .type "tuple") : ∀ p ∈ l, p.1 ≠ a := by
  intro p m e
  rcases k p m with q | q
  · have h1 := (N p (.tail _ m)).1
    have h2 := (N _ (.head _)).1
    rw [e, h2] at h1
    cases h1
    exact ho q
  · exact q e

/-- the types that the law draws -/
inductive Ty where | int | arr | pair | named | ptr | slice | arr2
  deriving DecidableEq
inductive TyIn (l : Led) : Value → Ty → Prop
  | i228 : TyIn l (.ref 228) .int
  | i229 : TyIn l (.ref 229) .int
  | i231 : TyIn l (.ref 231) .int
  | i233 : TyIn l (.ref 233) .int
  | a230 : TyIn l (.ref 230) .arr
  | a234 : TyIn l (.ref 234) .arr
  | pair : TyIn l (.ref 237) .pair
  | named : TyIn l (.ref 238) .named
  | ptr {a : Addr} {t : Tok} : (a, tupO [.str (Str.ofString "ptr") t, .ref 237]) ∈ l → TyIn l (.ref a) .ptr
  | slice {a : Addr} {t : Tok} : (a, tupO [.str (Str.ofString "slice") t, .ref 237]) ∈ l → TyIn l (.ref a) .slice
  | arr2 {a : Addr} {t u : Tok} : (a, tupO [.str (Str.ofString "array") t, .int 2 u, .ref 237]) ∈ l → TyIn l (.ref a) .arr2
theorem TyIn.mono {a b : Led} {v : Value} {t : Ty} (s : SubT a b) (h : TyIn a v t) : TyIn b v t := by
  cases h
  case i228 => exact .i228
  case i229 => exact .i229
  case i231 => exact .i231
  case i233 => exact .i233
  case a230 => exact .a230
  case a234 => exact .a234
  case pair => exact .pair
  case named => exact .named
  case ptr h => exact .ptr (s.tup h)
  case slice h => exact .slice (s.tup h)
  case arr2 h => exact .arr2 (s.tup h)
noncomputable def Ty.isArr : Ty → Bool
  | .arr | .arr2 | .named => true
  | _ => false
/-- the type of local n -/
noncomputable def tyOf (n : Nat) : Ty := [Ty.int, .int, .arr, .pair, .named, .ptr, .slice, .arr2].getD n .int
/-- constants and whole locals as indices -/
inductive FlatIn (l : Led) : Value → Prop
  | const {a : Addr} {t u x : Tok} {n : Int} : (a, tupO [.str (Str.ofString "const") t, .ref 228, .int 0 u, .int n x]) ∈ l → FlatIn l (.ref a)
  | loc {a : Addr} {t u x : Tok} {n : Int} {v : Value} {ty : Ty} : (a, tupO [.str (Str.ofString "local") t, v, .int 0 u, .int n x]) ∈ l → TyIn l v ty → FlatIn l (.ref a)
theorem FlatIn.mono {a b : Led} {v : Value} (s : SubT a b) (h : FlatIn a v) : FlatIn b v := by
  cases h
  case const h => exact .const (s.tup h)
  case loc h k => exact .loc (s.tup h) (k.mono s)
/-- a place: its type, the local that it is a part of (none behind a pointer, in a slice), whether it is a whole local, its height -/
inductive PlaceIn (l : Led) : Value → Ty → Option Nat → Bool → Nat → Prop
  | loc {a : Addr} {t u x : Tok} {v : Value} {ty : Ty} {n : Nat} : n < 8 → (a, tupO [.str (Str.ofString "local") t, v, .int 0 u, .int (n : Int) x]) ∈ l → TyIn l v ty → PlaceIn l (.ref a) ty (some n) true 0
  | field {a : Addr} {t u x : Tok} {v pv : Value} {ty ty' : Ty} {k : Int} {r : Option Nat} {b : Bool} {d : Nat} : (a, tupO [.str (Str.ofString "field") t, v, .int 0 u, pv, .int k x]) ∈ l → TyIn l v ty → PlaceIn l pv ty' r b d → PlaceIn l (.ref a) ty r false (d + 1)
  | index {a : Addr} {t u : Tok} {v pv iv : Value} {ty ty' : Ty} {r : Option Nat} {b : Bool} {d : Nat} : (a, tupO [.str (Str.ofString "index") t, v, .int 0 u, pv, iv]) ∈ l → TyIn l v ty → PlaceIn l pv ty' r b d → FlatIn l iv → PlaceIn l (.ref a) ty (if ty'.isArr then r else none) false (d + 1)
  | deref {a : Addr} {t u : Tok} {v pv : Value} {ty ty' : Ty} {r : Option Nat} {b : Bool} {d : Nat} : (a, tupO [.str (Str.ofString "deref") t, v, .int 0 u, pv]) ∈ l → TyIn l v ty → PlaceIn l pv ty' r b d → PlaceIn l (.ref a) ty none false (d + 1)
theorem PlaceIn.mono {a b : Led} {v : Value} {ty : Ty} {r : Option Nat} {c : Bool} {d : Nat} (s : SubT a b) (h : PlaceIn a v ty r c d) : PlaceIn b v ty r c d := by
  induction h with
  | loc i h k => exact .loc i (s.tup h) (k.mono s)
  | field h k _ ih => exact .field (s.tup h) (k.mono s) ih
  | index h k _ f ih => exact .index (s.tup h) (k.mono s) ih (f.mono s)
  | deref h k _ ih => exact .deref (s.tup h) (k.mono s) ih
theorem PlaceIn.isRef {l : Led} {v : Value} {ty : Ty} {r : Option Nat} {c : Bool} {d : Nat} (h : PlaceIn l v ty r c d) : ∃ a, v = .ref a := by
  cases h <;> exact ⟨_, rfl⟩

structure SrcOk (o : Obj) : Prop where
  mk' ::
  ex : ∃ x y t1 t2 ep, o = (listOf #[.int x t1, .int y t2] ep) ∧ 0 ≤ x ∧ 0 ≤ y ∧ y < 2147483647
theorem SrcOk.cls {o : Obj} (h : SrcOk o) : o.cls ≠ .type "tuple" := by
  obtain ⟨x, y, t1, t2, ep, rfl, _⟩ := h.ex
  intro e
  exact absurd (Value.type.inj e) (by decide)

end
--PART A04Loop
section
/-- a ledger grown by tuples alone -/
noncomputable def Grow (a b : Led) : Prop := Sub a b ∧ ∀ p ∈ b, p ∈ a ∨ p.2.cls = .type "tuple"
theorem Grow.mem {a b : Led} {q : Addr × Obj} (h : Grow a b) (m : q ∈ a) : q ∈ b := h.1 _ m
theorem mem_tl {l : Led} {p q : Addr × Obj} (m : q ∈ l) : q ∈ p :: l := .tail _ m
theorem mem_hd {l : Led} {q : Addr × Obj} : q ∈ q :: l := .head _
theorem mem_apL {a b : Led} {q : Addr × Obj} (m : q ∈ a) : q ∈ a ++ b := List.mem_append.mpr (.inl m)
theorem mem_apR {a b : Led} {q : Addr × Obj} (m : q ∈ b) : q ∈ a ++ b := List.mem_append.mpr (.inr m)
theorem Grow.refl {a : Led} : Grow a a := ⟨Sub.refl, fun _ h => .inl h⟩
theorem Grow.trans {a b c : Led} (h : Grow a b) (k : Grow b c) : Grow a c := ⟨h.1.trans k.1, fun p m => (k.2 p m).elim (fun q => h.2 p q) .inr⟩
theorem Grow.tup {a b : Led} {x : Addr} {vs : List Value} (h : Grow a b) : Grow a ((x, tupO vs) :: b) := ⟨h.1.tl, fun p m => by
  rcases List.mem_cons.mp m with rfl | m
  · exact .inr rfl
  · exact h.2 p m⟩
theorem Grow.app {a b : Led} {tl : Led} (h : Grow a b) (ht : ∀ p ∈ tl, p.2.cls = .type "tuple") : Grow a (tl ++ b) := ⟨fun p m => List.mem_append.mpr (.inr (h.1 p m)), fun p m => by
  rcases List.mem_append.mp m with m | m
  · exact .inr (ht p m)
  · exact h.2 p m⟩
/-- a ledger cleaned: what stood, and the tuples -/
noncomputable def clean (a b : Led) : Led := a ++ b.filter fun p => decide (p.2.cls = .type "tuple")
theorem Grow.clean {a b : Led} : Grow a (clean a b) := ⟨fun _ m => mem_apL m, fun p m => (List.mem_append.mp m).elim .inl fun q => .inr (of_decide_eq_true (List.mem_filter.mp q).2)⟩
theorem SubT.clean {a b : Led} : SubT b (clean a b) := fun _ m e => mem_apR (List.mem_filter.mpr ⟨m, decide_eq_true e.1⟩)
theorem Sub.clean {a b : Led} (s : Sub a b) : Sub (clean a b) b := fun p m => (List.mem_append.mp m).elim (s p) fun q => (List.mem_filter.mp q).1
theorem Off.clean {x : Addr} {a b : Led} (h : Off x a) : Off x (clean a b) := fun p m => (List.mem_append.mp m).elim (h p) fun q => .inl (of_decide_eq_true (List.mem_filter.mp q).2)
theorem Sub.gr {a b c : Led} (g : Grow b c) (h : Sub a b) : Sub a c := fun p m => g.1 _ (h p m)
theorem Off.grow {x : Addr} {a b : Led} (h : Off x a) (g : Grow a b) : Off x b := fun p m => (g.2 p m).elim (fun q => h p q) .inl
/-- a second mutable entry, kept -/
theorem Grow.keep {h₀ h h' : Heap} {L x : Addr} {o : Obj} {fr fr' : Led} (g : Grow ((x, o) :: fr) fr') (ho : o.cls ≠ .type "tuple") (hx : Off x fr) (N : News h₀ L h ((x, o) :: fr)) (N' : News h₀ L h' fr') :
    ∃ fr₁, Grow fr fr₁ ∧ SubT fr' fr₁ ∧ Sub ((x, o) :: fr₁) fr' := by
  have h1 := hx.ok N ho
  have h2 : ∀ p ∈ fr', p.2.cls = .type "tuple" → p.1 ≠ x := fun p m hc e => by
    have q1 := (N' _ (g.1 _ (.head _))).1
    have q2 := (N' _ m).1
    rw [e] at q2
    dsimp only at q1
    rw [q2] at q1
    exact ho (Option.some.inj q1 ▸ hc)
  refine ⟨fr'.filter fun p => !(p.1 == x), ⟨fun p m => List.mem_filter.mpr ⟨g.1 _ (.tail _ m), by simpa using h1 p m⟩, fun p m => ?_⟩, fun p m hc => List.mem_filter.mpr ⟨m, by simpa using h2 p m hc.1⟩, fun p m => ?_⟩
  · obtain ⟨m, e⟩ := List.mem_filter.mp m
    rcases g.2 p m with q | q
    · rcases List.mem_cons.mp q with rfl | q
      · simp at e
      · exact .inl q
    · exact .inr q
  · rcases List.mem_cons.mp m with rfl | m
    · exact g.1 _ (.head _)
    · exact (List.mem_filter.mp m).1
noncomputable def OffA (adr : List Addr) (l : Led) : Prop := ∀ a ∈ adr, Off a l
section
variable {prog : Program} {w : World} {A : Around} {E : Value → Shared → Prop} {s : Shared} {env : Env} {h₀ : Heap} {x : Str} {body : List Stmt} {Q : Flow → Shared → Prop}
noncomputable def TurnEnd {σ : Type} (R : Led → Led → Prop) (h₀ : Heap) (L : Addr) (mu : σ → Led) (adr : List Addr) (ps : σ → List (Str × Value)) (x : Str) (stored : List Str) (m₀ : Str → Option Value) (Inv : σ → Led → Prop) (fr : Led) (s₁ s₂ : Shared) : Prop :=
  ∃ h' tk m' c fr', s₂ = { s₁ with heap := h', toks := tk } ∧ Fr h₀ L h' m' ∧ News h₀ L h' (mu c ++ fr') ∧ R fr fr' ∧ OffA adr fr' ∧
    (∀ p ∈ ps c, m' p.1 = some p.2) ∧ (∀ z, z ≠ x → (∀ p ∈ ps c, z ≠ p.1) → stored.contains z = false → m' z = m₀ z) ∧ Inv c fr'
noncomputable def TurnPost {σ : Type} (R : Led → Led → Prop) (h₀ : Heap) (L : Addr) (mu : σ → Led) (adr : List Addr) (ps : σ → List (Str × Value)) (x : Str) (stored : List Str) (m₀ : Str → Option Value) (Inv : σ → Led → Prop) (fr : Led) (s₁ : Shared) (Q : Flow → Shared → Prop) (f : Flow) (s₂ : Shared) : Prop :=
  match f with
  | .ret v => Q (.ret v) s₂
  | .brk => Q .next s₂
  | _ => TurnEnd R h₀ L mu adr ps x stored m₀ Inv fr s₁ s₂

theorem loop_fr {σ : Type} {I : Addr} {fp wr : List Addr} {n : Nat} {P : Nat → Value → Prop} {St : Nat → Heap → Prop} {m₀ : Str → Option Value}
    (R : Led → Led → Prop) (mu : σ → Led) (adr : List Addr) (ps : σ → List (Str × Value)) (stored : List Str) (Inv : Nat → σ → Led → Prop) (c₀ : σ) (fr₀ : Led)
    (hR0 : R fr₀ fr₀) (hRs : ∀ a b, R a b → Sub a b) (hRf : ∀ frJ own fr', R fr₀ frJ → (∀ p ∈ own, p.1 ∈ fp) → R (frJ ++ own) fr' → Sub fr₀ (fr'.filter fun p => !wr.contains p.1) → R fr₀ (fr'.filter fun p => !wr.contains p.1))
    (hadr : ∀ c, (mu c).map (·.1) = adr) (hmono : ∀ i c fr fr', SubT fr fr' → Inv i c fr → Inv i c fr')
    (W : Walks prog w A I fp wr n P St) (hcls : ∀ i h, St i h → ∀ b ∈ fp, ∃ o, h.get? b = some o ∧ o.cls ≠ .type "tuple") (hLf : env.locals ∉ fp) (hwr : ∀ b ∈ wr, h₀.get? b = none) (hfa : ∀ b ∈ fp, b ∉ adr) (hfr : ∀ p ∈ fr₀, p.1 ∉ wr)
    (hst : St 0 s.heap) (F : Fr h₀ env.locals s.heap m₀) (N : News h₀ env.locals s.heap (mu c₀ ++ fr₀)) (ho : OffA adr fr₀) (hk : ∀ p ∈ ps c₀, m₀ p.1 = some p.2) (h0 : Inv 0 c₀ fr₀)
    (turn : ∀ i v c fr (u : Str → Option Value) h tk, i < n → P i v → Sub fr₀ fr → OffA adr fr → Inv i c fr →
      Fr h₀ env.locals h (fun y => if y = x then some v else kstB (fun z => if stored.contains z then u z else m₀ z) (ps c) y) → News h₀ env.locals h (mu c ++ fr) →
      wpAny (model prog w) A (execs body env) (TurnPost R h₀ env.locals mu adr ps x stored m₀ (Inv (i + 1)) fr { s with heap := h, toks := tk } Q) E { s with heap := h, toks := tk })
    (done : ∀ c fr (u : Str → Option Value) h tk, R fr₀ fr → OffA adr fr → Inv n c fr → Fr h₀ env.locals h (fun y => if y = x then u y else kstB (fun z => if stored.contains z then u z else m₀ z) (ps c) y) → News h₀ env.locals h (mu c ++ fr) → Q .next { s with heap := h, toks := tk }) :
    LoopAtV prog w A h₀ env x body Q E (.ref I) s := by
  have hwa : ∀ a ∈ adr, a ∉ wr := fun a ha hb => hfa a (W.sub _ hb) ha
  refine ⟨I, fp, wr, n, P, St, m₀, mu c₀ ++ fr₀, fun i m nx => ∃ c fr, nx = mu c ++ fr ∧ R fr₀ fr ∧ OffA adr fr ∧ (∀ p ∈ ps c, m p.1 = some p.2) ∧ (∀ z, z ≠ x → (∀ p ∈ ps c, z ≠ p.1) → stored.contains z = false → m z = m₀ z) ∧ Inv i c fr,
    rfl, W, hLf, hwr, ?_, hst, F, N, ⟨c₀, fr₀, rfl, hR0, ho, hk, fun _ _ _ _ => rfl, h0⟩, ?_, ?_⟩
  · intro p hp
    rcases List.mem_append.mp hp with hp | hp
    · exact hwa _ (hadr c₀ ▸ List.mem_map.mpr ⟨p, hp, rfl⟩)
    · exact hfr p hp
  · rintro i v m₁ nx s₁ own ⟨h, tk, rfl⟩ hi hP ⟨c, fr, rfl, hs, hoff, h1, h2, hI⟩ hnw hown hget hall hst₁ F₁ N₁
    have hoc : ∀ p ∈ own, p.2.cls ≠ .type "tuple" := by
      intro p hp
      obtain ⟨o, e, hc⟩ := hcls _ _ hst₁ p.1 (hown p hp)
      have e' := hget p hp
      rw [e] at e'
      cases e'
      exact hc
    have N₂ : News h₀ env.locals h (mu c ++ (fr ++ own)) := fun p hp => N₁ p (by
      rcases List.mem_append.mp hp with hp | hp
      · exact List.mem_append.mpr (.inr (List.mem_append.mpr (.inl hp)))
      · rcases List.mem_append.mp hp with hp | hp
        · exact List.mem_append.mpr (.inr (List.mem_append.mpr (.inr hp)))
        · exact List.mem_append.mpr (.inl hp))
    have sub1 : Sub fr (fr ++ own) := fun p hp => List.mem_append.mpr (.inl hp)
    have off1 : OffA adr (fr ++ own) := fun a ha p hp => by
      rcases List.mem_append.mp hp with hp | hp
      · exact hoff a ha p hp
      · exact .inr fun e => hfa _ (hown p hp) (e ▸ ha)
    refine wpAny_mono (turn i v c (fr ++ own) m₁ h tk hi hP ((hRs _ _ hs).trans sub1) off1 (hmono _ _ _ _ sub1.T hI) (kst_fr h1 h2 F₁) N₂) (fun f s₂ p => ?_) fun _ _ e => e
    have fin : TurnEnd R h₀ env.locals mu adr ps x stored m₀ (Inv (i + 1)) (fr ++ own) { s with heap := h, toks := tk } s₂ →
        LoopStepU h₀ env.locals wr own (fun m nx => ∃ c fr, nx = mu c ++ fr ∧ R fr₀ fr ∧ OffA adr fr ∧ (∀ p ∈ ps c, m p.1 = some p.2) ∧ (∀ z, z ≠ x → (∀ p ∈ ps c, z ≠ p.1) → stored.contains z = false → m z = m₀ z) ∧ Inv (i + 1) c fr) { s with heap := h, toks := tk } .next s₂ := by
      rintro ⟨h', tk', m', c', fr', rfl, F', N', hg', ho', k1, k2, hI'⟩
      have hs' := hRs _ _ hg'
      refine ⟨rfl, h', tk', m', mu c' ++ fr'.filter (fun p => !wr.contains p.1), rfl, F', ?_, ?_, c', _, rfl, ?_, ?_, k1, k2, ?_⟩
      · intro p hp
        refine N' p ?_
        rcases List.mem_append.mp hp with hp | hp
        · exact List.mem_append.mpr (.inr (hs' _ (List.mem_append.mpr (.inr hp))))
        · rcases List.mem_append.mp hp with hp | hp
          · exact List.mem_append.mpr (.inl hp)
          · exact List.mem_append.mpr (.inr (List.mem_filter.mp hp).1)
      · intro p hp
        rcases List.mem_append.mp hp with hp | hp
        · exact hwa _ (hadr c' ▸ List.mem_map.mpr ⟨p, hp, rfl⟩)
        · have := (List.mem_filter.mp hp).2
          simpa using this
      · refine hRf _ _ _ hs hown hg' fun p hp => List.mem_filter.mpr ⟨hs' _ (List.mem_append.mpr (.inl (hRs _ _ hs _ hp))), ?_⟩
        simpa using hfr p hp
      · exact fun a ha p hp => ho' a ha p (List.mem_filter.mp hp).1
      · refine hmono _ _ _ _ (fun p hp ht => List.mem_filter.mpr ⟨hp, ?_⟩) hI'
        have : p.1 ∉ wr := by
          intro hb
          obtain ⟨o, e, hc⟩ := hcls _ _ hst₁ p.1 (W.sub _ hb)
          have ho := hall _ (W.sub _ hb) (hwr _ hb) _ e
          have q1 := (N' _ (List.mem_append.mpr (.inr (hs' _ (List.mem_append.mpr (.inr ho)))))).1
          have q2 := (N' _ (List.mem_append.mpr (.inr hp))).1
          dsimp only at q1
          rw [q2] at q1
          exact hc (Option.some.inj q1 ▸ ht.1)
        simpa using this
    cases f with
    | ret v => exact .ret p
    | brk => exact .brk p
    | next => exact .next (fin p)
    | cont => exact .cont (fin p)
  · rintro h' tk m' nx F' N' _ ⟨c, fr, rfl, hs, hoff, h1, h2, hI⟩
    exact done c fr m' h' tk hs hoff hI (kst_frOut h1 h2 F') N'

theorem loop_range {σ : Type} {r : Addr} {a₀ b₀ : Int} {t₀ u₀ v₀ : Tok} {n : Nat} {m₀ : Str → Option Value}
    (mu : σ → Led) (adr : List Addr) (ps : σ → List (Str × Value)) (stored : List Str) (Inv : Nat → σ → Led → Prop) (c₀ : σ) (fr₀ : Led)
    (hadr : ∀ c, (mu c).map (·.1) = adr) (hmono : ∀ i c fr fr', SubT fr fr' → Inv i c fr → Inv i c fr')
    (hh : A.handled = none) (hr : IsRange s.heap r a₀ b₀ 1 t₀ u₀ v₀) (hsmall : Builtin.Range.small a₀ b₀ 1 = true) (hn : Builtin.Range.rangeSize a₀ b₀ 1 = (n : Int))
    (F : Fr h₀ env.locals s.heap m₀) (N : News h₀ env.locals s.heap (mu c₀ ++ fr₀)) (ho : OffA adr fr₀) (hk : ∀ p ∈ ps c₀, m₀ p.1 = some p.2) (h0 : Inv 0 c₀ fr₀)
    (turn : ∀ i k t c fr (u : Str → Option Value) h tk, i < n → k = a₀ + (i : Int) → Sub fr₀ fr → OffA adr fr → Inv i c fr →
      Fr h₀ env.locals h (fun y => if y = x then some (.int k t) else kstB (fun z => if stored.contains z then u z else m₀ z) (ps c) y) → News h₀ env.locals h (mu c ++ fr) →
      wpAny (model prog w) A (execs body env) (TurnPost Grow h₀ env.locals mu adr ps x stored m₀ (Inv (i + 1)) fr { s with heap := h, toks := tk } Q) E { s with heap := h, toks := tk })
    (done : ∀ c fr (u : Str → Option Value) h tk, Grow fr₀ fr → OffA adr fr → Inv n c fr → Fr h₀ env.locals h (fun y => if y = x then u y else kstB (fun z => if stored.contains z then u z else m₀ z) (ps c) y) → News h₀ env.locals h (mu c ++ fr) → Q .next { s with heap := h, toks := tk }) :
    wpAny (model prog w) A (pyIter (.ref r)) (fun it s₂ => LoopAtV prog w A h₀ env x body Q E it s₂) E s := by
  refine wpAny_pyIter_range hr hsmall ?_
  have W : Walks prog w A s.heap.objs.size [s.heap.objs.size] [s.heap.objs.size] n (fun i v => i < n ∧ ∃ t, v = .int (a₀ + i * 1) t)
      (fun i h => IsRangeIter h s.heap.objs.size (a₀ + (i : Nat) * 1) ((n : Int) - (i : Nat)) 1) := (Walks.range hh _ a₀ 1 n).bound
  have nw : ∀ p ∈ mu c₀ ++ fr₀, p.1 ≠ s.heap.objs.size := fun p hp e => absurd (Heap.lt_size (N p hp).1) (e ▸ Nat.lt_irrefl _)
  refine loop_fr Grow mu adr ps stored Inv c₀ fr₀ Grow.refl (fun _ _ g => g.1) (fun frJ own fr' g ho g' sb => ⟨sb, fun p hp => ?_⟩) hadr hmono W ?_ ?_ ?_ ?_ ?_ (by show IsRangeIter _ _ _ _ _; rw [hn]; simpa using Heap.get?_push_size _ rfl) (F.push _) (fun p hp => ⟨Heap.get?_push_of_some _ (N p hp).1, (N p hp).2⟩) ho hk h0 ?_ done
  · obtain ⟨hp, hw⟩ := List.mem_filter.mp hp
    rcases g'.2 p hp with q | q
    · rcases List.mem_append.mp q with q | q
      · exact g.2 p q
      · have := ho p q
        simp_all
    · exact .inr q
  · intro i h hi b hb
    rw [List.mem_singleton.mp hb]
    exact ⟨_, hi, fun e => absurd (Value.type.inj e) (by decide)⟩
  · intro hm
    exact absurd F.ns.lt ((List.mem_singleton.mp hm) ▸ Nat.lt_irrefl _)
  · intro b hb
    rw [List.mem_singleton.mp hb]
    exact next_is_new F
  · intro b hb ha
    rw [List.mem_singleton.mp hb, ← hadr c₀] at ha
    obtain ⟨p, hp, e⟩ := List.mem_map.mp ha
    exact nw p (List.mem_append.mpr (.inl hp)) e
  · intro p hp hI
    exact nw p (List.mem_append.mpr (.inr hp)) (List.mem_singleton.mp hI)
  · rintro i v c fr u h tk hi ⟨_, t, rfl⟩ hs hoff hI F₁ N₁
    have e1 : a₀ + (i : Int) * 1 = a₀ + (i : Int) := by omega
    rw [e1] at F₁
    exact turn i _ t c fr u h tk hi rfl hs hoff hI F₁ N₁
end

end
--PART A97Rest
section
noncomputable def o0 : Obj := { cls := Value.none, data := Data.fields #[] }
noncomputable def o1 : Obj := { cls := Value.type "tuple", data := Data.seq #[] }
/-- the bare def behind a function, as its code object holds it -/
noncomputable def rawOf : Obj → Obj
  | ⟨_, _, .func f, _⟩ => { cls := Value.none, data := .func { name := f.name, qualname := f.qualname, params := f.params, body := f.body, scope := f.scope, globals := 0, closure := [], defaults := .none, kwdefaults := .none } }
  | o => o
noncomputable def at_ : List (Nat × Obj) → Nat → Obj
  | [], _ => o0
  | (b, o) :: l, a => match Nat.beq b a with
    | true => o
    | false => at_ l a
noncomputable def rawAt (P : Params) (a : Nat) : Obj := rawOf (at_ (hd.heap_39 P) a)
set_option maxRecDepth 100000 in
set_option maxHeartbeats 8000000 in
/-- the objects of the last heap that heap_39 does not hold -/
noncomputable def hd.rest (P : Params) : List (Nat × Obj) :=
  (nat_lit 0, boot_o_0 P) ::
  (nat_lit 1, boot_o_1 P) ::
  (nat_lit 4, boot_o_4 P) ::
  (nat_lit 5, boot_o_5 P) ::
  (nat_lit 6, boot_o_6 P) ::
  (nat_lit 7, boot_o_7 P) ::
  (nat_lit 8, boot_o_8 P) ::
  (nat_lit 9, boot_o_9 P) ::
  (nat_lit 10, boot_o_10 P) ::
  (nat_lit 11, o1) ::
  (nat_lit 12, { cls := Value.none, data := Data.fields #[Value.int 1 (0 : Nat), Value.int 0 (0 : Nat), Value.ref (20 : Nat), Value.int 5 (0 : Nat), Value.int 0 (0 : Nat), Value.ref (27 : Nat), Value.int 9 (0 : Nat), Value.int 0 (0 : Nat), Value.ref (34 : Nat), Value.int 16 (0 : Nat), Value.int 0 (0 : Nat), Value.ref (41 : Nat), Value.int 18 (0 : Nat), Value.int 0 (0 : Nat), Value.ref (46 : Nat), Value.int 29 (0 : Nat), Value.int 0 (0 : Nat), Value.ref (53 : Nat), Value.int 33 (0 : Nat), Value.int 0 (0 : Nat), Value.ref (60 : Nat), Value.int 43 (0 : Nat), Value.int 0 (0 : Nat), Value.ref (67 : Nat), Value.int 47 (0 : Nat), Value.int 0 (0 : Nat), Value.ref (72 : Nat), Value.int 65 (0 : Nat), Value.int 0 (0 : Nat), Value.ref (79 : Nat), Value.int 76 (0 : Nat), Value.int 0 (0 : Nat), Value.ref (100 : Nat), Value.int 82 (0 : Nat), Value.int 0 (0 : Nat), Value.ref (121 : Nat), Value.int 84 (0 : Nat), Value.int 0 (0 : Nat), Value.ref (133 : Nat), Value.int 88 (0 : Nat), Value.int 0 (0 : Nat), Value.ref (148 : Nat), Value.int 95 (0 : Nat), Value.int 0 (0 : Nat), Value.ref (169 : Nat), Value.int 103 (0 : Nat), Value.int 0 (0 : Nat), Value.ref (176 : Nat), Value.int 135 (0 : Nat), Value.int 0 (0 : Nat), Value.ref (212 : Nat), Value.int 142 (0 : Nat), Value.int 0 (0 : Nat), Value.ref (219 : Nat), Value.int 149 (0 : Nat), Value.int 0 (0 : Nat), Value.ref (226 : Nat), Value.int 155 (0 : Nat), Value.int 0 (0 : Nat), Value.ref (244 : Nat), Value.int 157 (0 : Nat), Value.int 0 (0 : Nat), Value.ref (251 : Nat), Value.int 159 (0 : Nat), Value.int 0 (0 : Nat), Value.ref (258 : Nat), Value.int 176 (0 : Nat), Value.int 0 (0 : Nat), Value.ref (265 : Nat), Value.int 178 (0 : Nat), Value.int 0 (0 : Nat), Value.ref (272 : Nat), Value.int 191 (0 : Nat), Value.int 0 (0 : Nat), Value.ref (277 : Nat), Value.int 211 (0 : Nat), Value.int 0 (0 : Nat), Value.ref (282 : Nat), Value.int 216 (0 : Nat), Value.int 0 (0 : Nat), Value.ref (287 : Nat)] }) ::
  (nat_lit 13, { cls := Value.type "code", data := Data.fields #[Value.str (Str.ofString "<module>") (182 : Nat), Value.str (Str.ofString "<module>") (183 : Nat), Value.str (Str.ofString "/claim/cut.py") (184 : Nat), Value.int 1 (0 : Nat), Value.int 0 (0 : Nat), Value.int 0 (0 : Nat), Value.int 0 (0 : Nat), Value.int 0 (0 : Nat), Value.ref (11 : Nat), Value.bool Bool.false, Value.int 181 (0 : Nat), Value.ref (12 : Nat), Value.none, Value.none, Value.none, Value.none, Value.int 185 (0 : Nat), Value.int 1 (0 : Nat), Value.str (Str.ofString "/claim/cut.py") (186 : Nat)] }) ::
  (nat_lit 14, { cls := Value.type "frame", slots := #[Option.some (Value.ref (13 : Nat)), Option.some (Value.ref (3 : Nat)), Option.some (Value.ref (3 : Nat)), Option.none, Option.some (Value.str (Str.ofString "__main__") (164 : Nat)), Option.none, Option.some (Value.ref (0 : Nat))] }) ::
  (nat_lit 16, o0) ::
  (nat_lit 19, rawAt P 21) ::
  (nat_lit 23, o0) ::
  (nat_lit 26, rawAt P 28) ::
  (nat_lit 30, o0) ::
  (nat_lit 33, rawAt P 35) ::
  (nat_lit 37, o0) ::
  (nat_lit 40, rawAt P 42) ::
  (nat_lit 44, o0) ::
  (nat_lit 45, rawAt P 47) ::
  (nat_lit 49, o0) ::
  (nat_lit 52, rawAt P 54) ::
  (nat_lit 56, o0) ::
  (nat_lit 59, rawAt P 61) ::
  (nat_lit 63, o0) ::
  (nat_lit 66, rawAt P 68) ::
  (nat_lit 70, o0) ::
  (nat_lit 71, rawAt P 73) ::
  (nat_lit 74, o1) ::
  (nat_lit 75, { cls := Value.type "builtin_function_or_method", data := Data.fields #[Value.builtin "type.__prepare__", Value.type "type"] }) ::
  (nat_lit 76, { cls := Value.type "dict", data := Data.dict #[{ hash := PyData.keyHash P (Str.ofString "__module__"), key := Value.str (Str.ofString "__module__") (270 : Nat), val := Value.str (Str.ofString "chancore.check_state") (261 : Nat) }, { hash := PyData.keyHash P (Str.ofString "__qualname__"), key := Value.str (Str.ofString "__qualname__") (272 : Nat), val := Value.str (Str.ofString "TypedFn") (271 : Nat) }, { hash := PyData.keyHash P (Str.ofString "__firstlineno__"), key := Value.str (Str.ofString "__firstlineno__") (274 : Nat), val := Value.int 65 (273 : Nat) }, { hash := PyData.keyHash P (Str.ofString "__init__"), key := Value.str (Str.ofString "__init__") (288 : Nat), val := Value.ref (87 : Nat) }, { hash := PyData.keyHash P (Str.ofString "__static_attributes__"), key := Value.str (Str.ofString "__static_attributes__") (296 : Nat), val := Value.ref (88 : Nat) }] 5 }) ::
  (nat_lit 77, o1) ::
  (nat_lit 78, { cls := Value.none, data := Data.fields #[Value.int 67 (0 : Nat), Value.int 4 (0 : Nat), Value.ref (86 : Nat)] }) ::
  (nat_lit 79, { cls := Value.type "code", data := Data.fields #[Value.str (Str.ofString "TypedFn") (265 : Nat), Value.str (Str.ofString "TypedFn") (266 : Nat), Value.str (Str.ofString "/claim/cut.py") (267 : Nat), Value.int 65 (0 : Nat), Value.int 0 (0 : Nat), Value.int 0 (0 : Nat), Value.int 0 (0 : Nat), Value.int 0 (0 : Nat), Value.ref (77 : Nat), Value.bool Bool.false, Value.int 181 (0 : Nat), Value.ref (78 : Nat), Value.none, Value.none, Value.none, Value.none, Value.int 268 (0 : Nat), Value.int 65 (0 : Nat), Value.str (Str.ofString "/claim/cut.py") (269 : Nat)] }) ::
  (nat_lit 80, { cls := Value.type "frame", slots := #[Option.some (Value.ref (79 : Nat)), Option.some (Value.ref (3 : Nat)), Option.some (Value.ref (76 : Nat)), Option.none, Option.some (Value.str (Str.ofString "chancore.check_state") (261 : Nat)), Option.none, Option.some (Value.ref (0 : Nat))] }) ::
  (nat_lit 82, o0) ::
  (nat_lit 85, rawAt P 87) ::
  (nat_lit 93, { cls := Value.type "super", data := Data.fields #[Value.ref (90 : Nat), Value.ref (90 : Nat), Value.ref (90 : Nat)] }) ::
  (nat_lit 94, { cls := Value.type "builtin_function_or_method", data := Data.fields #[Value.builtin "object.__init_subclass__", Value.ref (90 : Nat)] }) ::
  (nat_lit 96, { cls := Value.type "builtin_function_or_method", data := Data.fields #[Value.builtin "type.__prepare__", Value.type "type"] }) ::
  (nat_lit 97, { cls := Value.type "dict", data := Data.dict #[{ hash := PyData.keyHash P (Str.ofString "__module__"), key := Value.str (Str.ofString "__module__") (313 : Nat), val := Value.str (Str.ofString "chancore.errors") (304 : Nat) }, { hash := PyData.keyHash P (Str.ofString "__qualname__"), key := Value.str (Str.ofString "__qualname__") (315 : Nat), val := Value.str (Str.ofString "ChanError") (314 : Nat) }, { hash := PyData.keyHash P (Str.ofString "__firstlineno__"), key := Value.str (Str.ofString "__firstlineno__") (317 : Nat), val := Value.int 76 (316 : Nat) }, { hash := PyData.keyHash P (Str.ofString "__init__"), key := Value.str (Str.ofString "__init__") (327 : Nat), val := Value.ref (109 : Nat) }, { hash := PyData.keyHash P (Str.ofString "__static_attributes__"), key := Value.str (Str.ofString "__static_attributes__") (330 : Nat), val := Value.ref (110 : Nat) }] 5 }) ::
  (nat_lit 98, o1) ::
  (nat_lit 99, { cls := Value.none, data := Data.fields #[Value.int 78 (0 : Nat), Value.int 4 (0 : Nat), Value.ref (108 : Nat)] }) ::
  (nat_lit 100, { cls := Value.type "code", data := Data.fields #[Value.str (Str.ofString "ChanError") (308 : Nat), Value.str (Str.ofString "ChanError") (309 : Nat), Value.str (Str.ofString "/claim/cut.py") (310 : Nat), Value.int 76 (0 : Nat), Value.int 0 (0 : Nat), Value.int 0 (0 : Nat), Value.int 0 (0 : Nat), Value.int 0 (0 : Nat), Value.ref (98 : Nat), Value.bool Bool.false, Value.int 181 (0 : Nat), Value.ref (99 : Nat), Value.none, Value.none, Value.none, Value.none, Value.int 311 (0 : Nat), Value.int 76 (0 : Nat), Value.str (Str.ofString "/claim/cut.py") (312 : Nat)] }) ::
  (nat_lit 101, { cls := Value.type "frame", slots := #[Option.some (Value.ref (100 : Nat)), Option.some (Value.ref (3 : Nat)), Option.some (Value.ref (97 : Nat)), Option.none, Option.some (Value.str (Str.ofString "chancore.errors") (304 : Nat)), Option.none, Option.some (Value.ref (0 : Nat))] }) ::
  (nat_lit 104, o0) ::
  (nat_lit 107, rawAt P 109) ::
  (nat_lit 114, { cls := Value.type "super", data := Data.fields #[Value.ref (112 : Nat), Value.ref (112 : Nat), Value.ref (112 : Nat)] }) ::
  (nat_lit 115, { cls := Value.type "builtin_function_or_method", data := Data.fields #[Value.builtin "object.__init_subclass__", Value.ref (112 : Nat)] }) ::
  (nat_lit 117, { cls := Value.type "builtin_function_or_method", data := Data.fields #[Value.builtin "type.__prepare__", Value.type "type"] }) ::
  (nat_lit 118, { cls := Value.type "dict", data := Data.dict #[{ hash := PyData.keyHash P (Str.ofString "__module__"), key := Value.str (Str.ofString "__module__") (345 : Nat), val := Value.str (Str.ofString "chancore.errors") (304 : Nat) }, { hash := PyData.keyHash P (Str.ofString "__qualname__"), key := Value.str (Str.ofString "__qualname__") (347 : Nat), val := Value.str (Str.ofString "NameFault") (346 : Nat) }, { hash := PyData.keyHash P (Str.ofString "__firstlineno__"), key := Value.str (Str.ofString "__firstlineno__") (349 : Nat), val := Value.int 82 (348 : Nat) }, { hash := PyData.keyHash P (Str.ofString "__static_attributes__"), key := Value.str (Str.ofString "__static_attributes__") (350 : Nat), val := Value.ref (123 : Nat) }] 4 }) ::
  (nat_lit 119, o1) ::
  (nat_lit 120, o0) ::
  (nat_lit 121, { cls := Value.type "code", data := Data.fields #[Value.str (Str.ofString "NameFault") (340 : Nat), Value.str (Str.ofString "NameFault") (341 : Nat), Value.str (Str.ofString "/claim/cut.py") (342 : Nat), Value.int 82 (0 : Nat), Value.int 0 (0 : Nat), Value.int 0 (0 : Nat), Value.int 0 (0 : Nat), Value.int 0 (0 : Nat), Value.ref (119 : Nat), Value.bool Bool.false, Value.int 181 (0 : Nat), Value.ref (120 : Nat), Value.none, Value.none, Value.none, Value.none, Value.int 343 (0 : Nat), Value.int 82 (0 : Nat), Value.str (Str.ofString "/claim/cut.py") (344 : Nat)] }) ::
  (nat_lit 122, { cls := Value.type "frame", slots := #[Option.some (Value.ref (121 : Nat)), Option.some (Value.ref (3 : Nat)), Option.some (Value.ref (118 : Nat)), Option.none, Option.some (Value.str (Str.ofString "chancore.errors") (304 : Nat)), Option.none, Option.some (Value.ref (0 : Nat))] }) ::
  (nat_lit 126, { cls := Value.type "super", data := Data.fields #[Value.ref (125 : Nat), Value.ref (125 : Nat), Value.ref (125 : Nat)] }) ::
  (nat_lit 127, { cls := Value.type "builtin_function_or_method", data := Data.fields #[Value.builtin "object.__init_subclass__", Value.ref (125 : Nat)] }) ::
  (nat_lit 129, { cls := Value.type "builtin_function_or_method", data := Data.fields #[Value.builtin "type.__prepare__", Value.type "type"] }) ::
  (nat_lit 130, { cls := Value.type "dict", data := Data.dict #[{ hash := PyData.keyHash P (Str.ofString "__module__"), key := Value.str (Str.ofString "__module__") (361 : Nat), val := Value.str (Str.ofString "chancore.errors") (304 : Nat) }, { hash := PyData.keyHash P (Str.ofString "__qualname__"), key := Value.str (Str.ofString "__qualname__") (363 : Nat), val := Value.str (Str.ofString "TypeFault") (362 : Nat) }, { hash := PyData.keyHash P (Str.ofString "__firstlineno__"), key := Value.str (Str.ofString "__firstlineno__") (365 : Nat), val := Value.int 84 (364 : Nat) }, { hash := PyData.keyHash P (Str.ofString "__static_attributes__"), key := Value.str (Str.ofString "__static_attributes__") (366 : Nat), val := Value.ref (135 : Nat) }] 4 }) ::
  (nat_lit 131, o1) ::
  (nat_lit 132, o0) ::
  (nat_lit 133, { cls := Value.type "code", data := Data.fields #[Value.str (Str.ofString "TypeFault") (356 : Nat), Value.str (Str.ofString "TypeFault") (357 : Nat), Value.str (Str.ofString "/claim/cut.py") (358 : Nat), Value.int 84 (0 : Nat), Value.int 0 (0 : Nat), Value.int 0 (0 : Nat), Value.int 0 (0 : Nat), Value.int 0 (0 : Nat), Value.ref (131 : Nat), Value.bool Bool.false, Value.int 181 (0 : Nat), Value.ref (132 : Nat), Value.none, Value.none, Value.none, Value.none, Value.int 359 (0 : Nat), Value.int 84 (0 : Nat), Value.str (Str.ofString "/claim/cut.py") (360 : Nat)] }) ::
  (nat_lit 134, { cls := Value.type "frame", slots := #[Option.some (Value.ref (133 : Nat)), Option.some (Value.ref (3 : Nat)), Option.some (Value.ref (130 : Nat)), Option.none, Option.some (Value.str (Str.ofString "chancore.errors") (304 : Nat)), Option.none, Option.some (Value.ref (0 : Nat))] }) ::
  (nat_lit 138, { cls := Value.type "super", data := Data.fields #[Value.ref (137 : Nat), Value.ref (137 : Nat), Value.ref (137 : Nat)] }) ::
  (nat_lit 139, { cls := Value.type "builtin_function_or_method", data := Data.fields #[Value.builtin "object.__init_subclass__", Value.ref (137 : Nat)] }) ::
  (nat_lit 143, o1) ::
  (nat_lit 144, { cls := Value.type "builtin_function_or_method", data := Data.fields #[Value.builtin "type.__prepare__", Value.type "type"] }) ::
  (nat_lit 145, { cls := Value.type "dict", data := Data.dict #[{ hash := PyData.keyHash P (Str.ofString "__module__"), key := Value.str (Str.ofString "__module__") (381 : Nat), val := Value.str (Str.ofString "chancore.world") (370 : Nat) }, { hash := PyData.keyHash P (Str.ofString "__qualname__"), key := Value.str (Str.ofString "__qualname__") (383 : Nat), val := Value.str (Str.ofString "NamedRow") (382 : Nat) }, { hash := PyData.keyHash P (Str.ofString "__firstlineno__"), key := Value.str (Str.ofString "__firstlineno__") (385 : Nat), val := Value.int 88 (384 : Nat) }, { hash := PyData.keyHash P (Str.ofString "__init__"), key := Value.str (Str.ofString "__init__") (396 : Nat), val := Value.ref (156 : Nat) }, { hash := PyData.keyHash P (Str.ofString "__static_attributes__"), key := Value.str (Str.ofString "__static_attributes__") (401 : Nat), val := Value.ref (157 : Nat) }] 5 }) ::
  (nat_lit 146, o1) ::
  (nat_lit 147, { cls := Value.none, data := Data.fields #[Value.int 90 (0 : Nat), Value.int 4 (0 : Nat), Value.ref (155 : Nat)] }) ::
  (nat_lit 148, { cls := Value.type "code", data := Data.fields #[Value.str (Str.ofString "NamedRow") (376 : Nat), Value.str (Str.ofString "NamedRow") (377 : Nat), Value.str (Str.ofString "/claim/cut.py") (378 : Nat), Value.int 88 (0 : Nat), Value.int 0 (0 : Nat), Value.int 0 (0 : Nat), Value.int 0 (0 : Nat), Value.int 0 (0 : Nat), Value.ref (146 : Nat), Value.bool Bool.false, Value.int 181 (0 : Nat), Value.ref (147 : Nat), Value.none, Value.none, Value.none, Value.none, Value.int 379 (0 : Nat), Value.int 88 (0 : Nat), Value.str (Str.ofString "/claim/cut.py") (380 : Nat)] }) ::
  (nat_lit 149, { cls := Value.type "frame", slots := #[Option.some (Value.ref (148 : Nat)), Option.some (Value.ref (3 : Nat)), Option.some (Value.ref (145 : Nat)), Option.none, Option.some (Value.str (Str.ofString "chancore.world") (370 : Nat)), Option.none, Option.some (Value.ref (0 : Nat))] }) ::
  (nat_lit 151, o0) ::
  (nat_lit 154, rawAt P 156) ::
  (nat_lit 162, { cls := Value.type "super", data := Data.fields #[Value.ref (159 : Nat), Value.ref (159 : Nat), Value.ref (159 : Nat)] }) ::
  (nat_lit 163, { cls := Value.type "builtin_function_or_method", data := Data.fields #[Value.builtin "object.__init_subclass__", Value.ref (159 : Nat)] }) ::
  (nat_lit 165, o0) ::
  (nat_lit 168, rawAt P 170) ::
  (nat_lit 171, o1) ::
  (nat_lit 172, { cls := Value.type "builtin_function_or_method", data := Data.fields #[Value.builtin "type.__prepare__", Value.type "type"] }) ::
  (nat_lit 173, { cls := Value.type "dict", data := Data.dict #[{ hash := PyData.keyHash P (Str.ofString "__module__"), key := Value.str (Str.ofString "__module__") (428 : Nat), val := Value.str (Str.ofString "chancore.world") (370 : Nat) }, { hash := PyData.keyHash P (Str.ofString "__qualname__"), key := Value.str (Str.ofString "__qualname__") (430 : Nat), val := Value.str (Str.ofString "World") (429 : Nat) }, { hash := PyData.keyHash P (Str.ofString "__firstlineno__"), key := Value.str (Str.ofString "__firstlineno__") (432 : Nat), val := Value.int 103 (431 : Nat) }, { hash := PyData.keyHash P (Str.ofString "__init__"), key := Value.str (Str.ofString "__init__") (440 : Nat), val := Value.ref (185 : Nat) }, { hash := PyData.keyHash P (Str.ofString "base_of"), key := Value.str (Str.ofString "base_of") (449 : Nat), val := Value.ref (192 : Nat) }, { hash := PyData.keyHash P (Str.ofString "settled"), key := Value.str (Str.ofString "settled") (457 : Nat), val := Value.ref (199 : Nat) }, { hash := PyData.keyHash P (Str.ofString "__static_attributes__"), key := Value.str (Str.ofString "__static_attributes__") (471 : Nat), val := Value.ref (200 : Nat) }] 7 }) ::
  (nat_lit 174, o1) ::
  (nat_lit 175, { cls := Value.none, data := Data.fields #[Value.int 105 (0 : Nat), Value.int 4 (0 : Nat), Value.ref (184 : Nat), Value.int 120 (0 : Nat), Value.int 4 (0 : Nat), Value.ref (191 : Nat), Value.int 132 (0 : Nat), Value.int 4 (0 : Nat), Value.ref (198 : Nat)] }) ::
  (nat_lit 176, { cls := Value.type "code", data := Data.fields #[Value.str (Str.ofString "World") (423 : Nat), Value.str (Str.ofString "World") (424 : Nat), Value.str (Str.ofString "/claim/cut.py") (425 : Nat), Value.int 103 (0 : Nat), Value.int 0 (0 : Nat), Value.int 0 (0 : Nat), Value.int 0 (0 : Nat), Value.int 0 (0 : Nat), Value.ref (174 : Nat), Value.bool Bool.false, Value.int 181 (0 : Nat), Value.ref (175 : Nat), Value.none, Value.none, Value.none, Value.none, Value.int 426 (0 : Nat), Value.int 103 (0 : Nat), Value.str (Str.ofString "/claim/cut.py") (427 : Nat)] }) ::
  (nat_lit 177, { cls := Value.type "frame", slots := #[Option.some (Value.ref (176 : Nat)), Option.some (Value.ref (3 : Nat)), Option.some (Value.ref (173 : Nat)), Option.none, Option.some (Value.str (Str.ofString "chancore.world") (370 : Nat)), Option.none, Option.some (Value.ref (0 : Nat))] }) ::
  (nat_lit 180, o0) ::
  (nat_lit 183, rawAt P 185) ::
  (nat_lit 187, o0) ::
  (nat_lit 190, rawAt P 192) ::
  (nat_lit 194, o0) ::
  (nat_lit 197, rawAt P 199) ::
  (nat_lit 205, { cls := Value.type "super", data := Data.fields #[Value.ref (202 : Nat), Value.ref (202 : Nat), Value.ref (202 : Nat)] }) ::
  (nat_lit 206, { cls := Value.type "builtin_function_or_method", data := Data.fields #[Value.builtin "object.__init_subclass__", Value.ref (202 : Nat)] }) ::
  (nat_lit 208, o0) ::
  (nat_lit 211, rawAt P 213) ::
  (nat_lit 215, o0) ::
  (nat_lit 218, rawAt P 220) ::
  (nat_lit 222, o0) ::
  (nat_lit 225, rawAt P 227) ::
  (nat_lit 240, o0) ::
  (nat_lit 243, rawAt P 245) ::
  (nat_lit 247, o0) ::
  (nat_lit 250, rawAt P 252) ::
  (nat_lit 254, o0) ::
  (nat_lit 257, rawAt P 259) ::
  (nat_lit 261, o0) ::
  (nat_lit 264, rawAt P 266) ::
  (nat_lit 268, o0) ::
  (nat_lit 271, rawAt P 273) ::
  (nat_lit 275, o0) ::
  (nat_lit 276, rawAt P 278) ::
  (nat_lit 280, o0) ::
  (nat_lit 281, rawAt P 283) ::
  (nat_lit 285, o0) ::
  (nat_lit 286, rawAt P 288) :: []
/-- both lists in one, in the order of their addresses -/
noncomputable def merge : Nat → List (Nat × Obj) → List (Nat × Obj) → List Obj
  | n + 1, (a, o) :: l, (b, u) :: r => match Nat.blt a b with
    | true => o :: merge n l ((b, u) :: r)
    | false => u :: merge n ((a, o) :: l) r
  | n + 1, [], (_, u) :: r => u :: merge n [] r
  | n + 1, (_, o) :: l, [] => o :: merge n l []
  | _, _, _ => []

end
--PART A97bRun
section
/-- a heap's objects as the tree that the library walks: the tail's odd and even places -/
noncomputable def odds : List Obj → List Obj
  | a :: _ :: l => a :: odds l
  | [a] => [a]
  | [] => []
noncomputable def evens : List Obj → List Obj
  | _ :: b :: l => b :: evens l
  | _ => []
noncomputable def treeOf : Nat → List Obj → BT
  | n + 1, v :: l => .node v (treeOf n (odds l)) (treeOf n (evens l))
  | _, _ => .nil
/-- the main module's names as they stood when there were k of them -/
noncomputable def namesAt (k : Nat) (nm : Value) : Obj → Obj
  | ⟨c, d, .dict es _, s⟩ => ⟨c, d, .dict (match es.toList.take k with | e :: l => ({ e with val := nm } :: l).toArray | [] => #[]) k, s⟩
  | o => o
noncomputable def fieldsAt (k : Nat) : Obj → Obj
  | ⟨c, d, .fields xs, s⟩ => ⟨c, d, .fields (xs.toList.take k).toArray, s⟩
  | o => o
noncomputable def noneYet : Obj → Obj
  | ⟨c, d, .dict _ _, s⟩ => ⟨c, d, .dict #[] 0, s⟩
  | o => o
noncomputable def hd.objs (P : Params) : List Obj := merge 400 (hd.heap_39 P) (hd.rest P)
noncomputable def hd.tree (P : Params) (n : Nat) : BT := treeOf 10 ((hd.objs P).take n)
/-- the state behind a group of the module's statements: n objects, k names, f rows of code, the name of the module, whether a class has been told to its base -/
noncomputable def hd.st (n k f toks : Nat) (nm : Value) (two : Bool) (w : World) (os : OsState) : SharedT :=
  ⟨(((hd.tree w.params n).set 3 (namesAt k nm)).set 12 (fieldsAt f)).set 2 (match two with | true => id | false => noneYet), n, {}, #[], {}, toks, os⟩
noncomputable abbrev hd.prog : Program := PySem.Challenge.rw_on0017_01.row.toRowW.prog
noncomputable abbrev hd.body : List Stmt := behindTheImports hd.prog
noncomputable abbrev hd.env : Env := { scope := hd.prog.main.scope, locals := mainNs, globals := mainNs, cells := [], code := .ref 13, frame := some 14 }
noncomputable abbrev hd.code : Code := .body hd.body hd.env
noncomputable abbrev p0 : Pos := { line := 0, col := 0, endLine := 0, endCol := 0 }
noncomputable def hd.grp (a b : Nat) : List Stmt := (hd.body.drop a).take b
noncomputable def hd.piece (w : World) (n a b : Nat) (s s' : SharedT) (p p' : Pos) : Prop :=
  segRunT treeTable hd.prog w 11 (some (.ref 6)) 1 n s (piecesOf (hd.grp a b) hd.env hd.code p [topFrame p0]) = some (.next, s', hd.code, p')
noncomputable abbrev hd.s0 (w : World) (os : OsState) : SharedT := hd.st 15 9 0 187 (.str (Str.ofString "__main__") (164 : Nat)) false w os
noncomputable abbrev hd.s2 (w : World) (os : OsState) : SharedT := hd.st 140 23 39 370 (.str (Str.ofString "chancore.errors") (304 : Nat)) true w os
noncomputable abbrev hd.s4 (w : World) (os : OsState) : SharedT := hd.st 207 27 48 479 (.str (Str.ofString "chancore.world") (370 : Nat)) true w os
noncomputable abbrev hd.s5 (w : World) (os : OsState) : SharedT := ⟨hd.tree w.params 289, 289, {}, #[], {}, 594, os⟩
set_option maxRecDepth 100000
set_option maxHeartbeats 8000000
theorem hd.pre (w : World) (os : OsState) : topGo treeTable hd.prog w 11 (some (.ref 6)) 12 ⟨boot_heap w.params, Array.mk [], boot_drawn, boot_toks, os⟩ (topStub hd.prog) =
    some ((hd.s0 w os).abs, ⟨denote treeTable hd.code, hd.code, p0, [topFrame p0]⟩) := by kernel_rfl
theorem hd.block (w : World) (os : OsState) : segRun treeTable hd.prog w 11 (some (.ref 6)) 1 1 (hd.s0 w os).abs (blockOf hd.body hd.env hd.code p0 [topFrame p0]) = some (.next, (hd.s0 w os).abs, hd.code, p0) := by kernel_rfl
theorem hd.p1 (w : World) (os : OsState) : hd.piece w 1201 0 18 (hd.s0 w os) (hd.s2 w os) p0 ⟨84, 0, 85, 8⟩ := by
  unfold hd.piece
  kernel_rfl
theorem hd.p3 (w : World) (os : OsState) : hd.piece w 588 18 5 (hd.s2 w os) (hd.s4 w os) ⟨84, 0, 85, 8⟩ ⟨103, 0, 133, 16⟩ := by
  unfold hd.piece
  kernel_rfl
theorem hd.p5 (w : World) (os : OsState) : hd.piece w 409 23 16 (hd.s4 w os) (hd.s5 w os) ⟨103, 0, 133, 16⟩ ⟨216, 0, 230, 98⟩ := by
  unfold hd.piece
  kernel_rfl
theorem hd.size (w : World) : ((boot_heap w.params).isNs mainGlobals && (Array.mk [] : Array GenState).size == 0, (boot_heap w.params).objs.size, (boot_heap w.params).nsMap mainGlobals "__annotations__") = (true, 11, some (.ref 6)) := by kernel_rfl
theorem hd.fin (w : World) (os : OsState) : topRun treeTable hd.prog w 11 (some (.ref 6)) 2 (hd.s5 w os).abs ⟨doneF .next, hd.code, ⟨216, 0, 230, 98⟩, [topFrame p0]⟩ = some (hd.s5 w os).abs := by kernel_rfl
theorem hd.split : hd.body = hd.grp 0 18 ++ (hd.grp 18 5 ++ (hd.grp 23 16 ++ [])) := by kernel_rfl
theorem hd.run (w : World) (os : OsState) : topRun treeTable hd.prog w 11 (some (.ref 6)) 2213 ⟨boot_heap w.params, Array.mk [], boot_drawn, boot_toks, os⟩ (topStub hd.prog) = some (hd.s5 w os).abs := by
  refine go_top (n := 12) (N := 2201) (hd.pre w os) (piece_block (n := 1) (N := 2200) (hd.block w os) ?_)
  have e := piece_app (N := 999) (segRun_of (hd.p1 w os)) (piece_app (N := 411) (segRun_of (hd.p3 w os)) (piece_app (N := 2) (segRun_of (hd.p5 w os)) (piece_nil (hd.fin w os))))
  rw [← hd.split] at e
  exact e
theorem hd.opens (w : World) : (fencedOpening treeTable hd.prog w 4512).map (fun s => (s.heap, s.gens, s.drawn, s.toks)) = some (boot_heap w.params, Array.mk [], boot_drawn, boot_toks) :=
  boot_open (by kernel_rfl) rfl (fun _ => by kernel_rfl) w

end
--PART A98Left
section
/-- the addresses of the written part -/
noncomputable def hkAs : List Addr := [2, 3, 15, 17, 18, 20, 21, 22, 24, 25, 27, 28, 29, 31, 32, 34, 35, 36, 38, 39, 41, 42, 43, 46, 47, 48, 50, 51, 53, 54, 55, 57, 58, 60, 61, 62, 64, 65, 67, 68, 69, 72, 73, 81, 83, 84, 86, 87, 88, 89, 90, 91, 92, 95, 102, 103, 105, 106, 108, 109, 110, 111, 112, 113, 116, 123, 124, 125, 128, 135, 136, 137, 140, 141, 142, 150, 152, 153, 155, 156, 157, 158, 159, 160, 161, 164, 166, 167, 169, 170, 178, 179, 181, 182, 184, 185, 186, 188, 189, 191, 192, 193, 195, 196, 198, 199, 200, 201, 202, 203, 204, 207, 209, 210, 212, 213, 214, 216, 217, 219, 220, 221, 223, 224, 226, 227, 228, 229, 230, 231, 232, 233, 234, 235, 236, 237, 238, 239, 241, 242, 244, 245, 246, 248, 249, 251, 252, 253, 255, 256, 258, 259, 260, 262, 263, 265, 266, 267, 269, 270, 272, 273, 274, 277, 278, 279, 282, 283, 284, 287, 288]
theorem hk_ok : ∀ P, hkAs = (hd.heap_39 P).map (·.1) := fun _ => by kernel_rfl
set_option maxRecDepth 100000
set_option maxHeartbeats 8000000
theorem head_left : LeftO PySem.Challenge.rw_on0017_01.row.toRowW.prog hd.view_39 [Str.ofString "ChanError"] (fun s => xlAt hd.view_39 [] s && recOk (RowW.records PySem.Challenge.rw_on0017_01.row.toRowW) s)
    (Hook.obs (kHook hd.heap_39 hkAs hk_ok)) (Hook.val (kHook hd.heap_39 hkAs hk_ok)) 4512 :=
  LeftO.of_pieces (H₁ := fun P => absHeap (hd.tree P 289) 289 {}) (gs₁ := #[]) (d₁ := {}) (k₁ := 594) hd.opens hd.size hd.run (by rfl) fun w => funext fun os => Prod.ext (by kernel_rfl) (Prod.ext (by kernel_rfl) (by kernel_rfl))
theorem law_said : OpenLaw.wellSaid PySem.Challenge.rw_on0017_01 = true := by
  unfold OpenLaw.wellSaid OpenRow.wellSaid OpenRow.partSaid looksOpen
  repeat' (with_reducible refine look_both ?_ ?_)
  all_goals decide +kernel

end
--PART A11Comp
section
section
open PyProof.Rows.LCg
variable {prog : Program} {w : World} {A : Around} {E : Value → Shared → Prop} {s : Shared} {h₀ : Heap} {L : Addr} {m : Str → Option Value} {env : Env}
noncomputable def CTurnEnd {σ : Type} (h₀ : Heap) (L : Addr) (m : Str → Option Value) (mu : σ → Led) (adr : List Addr) (Inv : σ → Led → Prop) (fr : Led) (s₁ s₂ : Shared) : Prop :=
  ∃ h' tk c' fr', s₂ = { s₁ with heap := h', toks := tk } ∧ Fr h₀ L h' m ∧ News h₀ L h' (mu c' ++ fr') ∧ Grow fr fr' ∧ OffA adr fr' ∧ Inv c' fr'
/-- a turn of a comprehension over an invariant -/
noncomputable def CTurn {σ : Type} (prog : Program) (w : World) (A : Around) (h₀ : Heap) (L : Addr) (m : Str → Option Value) (env : Env) (ifs : List Expr) (elt : Expr) (x : Str) (scope : Scope) (cl : List (Str × Addr)) (s₂ : Shared)
    (mu : σ → Led) (adr : List Addr) (n : Nat) (P : Nat → Value → Prop) (Inv : Nat → σ → List Value → Led → Prop) (fr₀ : Led) : Prop :=
  ∀ i v c ys fr I oI C oC D m₂ h tk (E' : Value → Shared → Prop), i < n → P i v → Sub fr₀ fr → Inv i c ys fr → NsObj oC m₂ → m₂ x = some v → OffA adr ((I, oI) :: (C, oC) :: (D, lst ys) :: fr) → Fr h₀ L h m → News h₀ L h (mu c ++ ((I, oI) :: (C, oC) :: (D, lst ys) :: fr)) →
    wpAny (model prog w) A (forIn ifs true fun c r => if r = true then do let ok ← isTrue c (compEnvC scope cl C env) (eval c (compEnvC scope cl C env)); pure (ForInStep.yield ok) else pure (ForInStep.yield r)) (fun ok s' =>
      if ok = true then wpAny (model prog w) A (eval elt (compEnvC scope cl C env)) (fun y s'' => CTurnEnd h₀ L m mu adr (fun c' fr' => Inv (i + 1) c' (ys ++ [y]) fr') ((I, oI) :: (C, oC) :: (D, lst ys) :: fr) { s₂ with heap := h, toks := tk } s'') E' s'
      else CTurnEnd h₀ L m mu adr (fun c' fr' => Inv (i + 1) c' ys fr') ((I, oI) :: (C, oC) :: (D, lst ys) :: fr) { s₂ with heap := h, toks := tk } s') E' { s₂ with heap := h, toks := tk }
theorem block_fr {σ : Type} {ifs : List Expr} {elt iter : Expr} {x : Str} {px : Pos} {scope : Scope} {cl : List (Str × Addr)} {pos : Pos} {s₂ : Shared} {I : Addr} {fp : List Addr} {n : Nat} {P : Nat → Value → Prop} {St : Nat → Heap → Prop}
    {RR : Value → Addr → Result → Shared → Prop} (mu : σ → Led) (adr : List Addr) (Inv : Nat → σ → List Value → Led → Prop) (c₀ : σ) (fr₀ : Led)
    (hadr : ∀ c, (mu c).map (·.1) = adr) (hmono : ∀ i c ys fr fr', SubT fr fr' → Inv i c ys fr → Inv i c ys fr')
    (W : Walks prog w A I fp [I] n P St) (hsz : ∀ i c ys fr, i < n → Inv i c ys fr → ys.length ≤ sizeLine) (hIo : ∀ i h, St i h → ∃ o, h.get? I = some o ∧ ¬ TupO o)
    (hSt : ∀ i h h' fr, St i h → h'.get? I = h.get? I → (∀ b o, h₀.get? b = some o → h'.get? b = some o) → News h₀ L h' fr → Sub fr₀ fr → St i h')
    (hcell : ∀ y ∈ scope.names, y.2 ≠ .cell) (hkind : scope.kind = .function) (hx : scope.names.lookup x = some .local) (hst : St 0 s₂.heap) (hfp : ∀ b ∈ fp, b < s₂.heap.objs.size)
    (F : Fr h₀ L s₂.heap m) (N : News h₀ L s₂.heap (mu c₀ ++ fr₀)) (hIL : L ≠ I) (hI₀ : h₀.get? I = none) (hIn : ∀ p ∈ mu c₀ ++ fr₀, p.1 ≠ I) (off : OffA adr fr₀) (h0 : Inv 0 c₀ [] fr₀)
    (turn : CTurn prog w A h₀ L m env ifs elt x scope cl s₂ mu adr n P Inv fr₀)
    (hRR : ∀ D C h tk m' c ys fr, Fr h₀ L h m → News h₀ L h ((D, lst ys) :: (mu c ++ fr)) → (∀ p ∈ mu c ++ fr, p.1 ≠ D ∧ p.1 ≠ C) → h.Ns C m' → h₀.get? C = none → h₀.get? D = none → C ≠ L → D ≠ L → C ≠ D → Grow fr₀ fr → OffA adr fr → Inv n c ys fr → RR (.ref D) C (.ok .next) { s₂ with heap := h, toks := tk }) :
    wpAny (model prog w) A (newList []) (fun acc s₃ => wpAny (model prog w) A (newFunctionEnv scope env.globals cl [] env.qual none .none (some env)) (fun cenv s₄ =>
      codeAny (model prog w) A (.compStart (.ListComp elt [⟨.Name x px, iter, ifs, 0⟩] scope pos) 0 (.ref I) acc { cenv with scope := relabel scope env }) (RR acc cenv.locals) s₄) E s₃) E s₂ := by
  refine wpAny_newObj_type (wpAny_newFunctionEnv hcell (by intro y hy; simp at hy) (fun h₁ hns₁ hsb₁ => ?_) hkind)
  dsimp only at hns₁ hsb₁ ⊢
  generalize hH2 : s₂.heap.push { cls := .type "list", dict := none, data := .seq ([] : List Value).toArray } = H2 at hns₁ hsb₁ ⊢
  generalize hCe : H2.objs.size = C at hns₁ hsb₁ ⊢
  generalize hDe : s₂.heap.objs.size = D at hH2 ⊢
  have hC : C = D + 1 := by rw [← hCe, ← hH2, Heap.size_push, hDe]
  have hDC : D ≠ C := by rw [hC]; exact Nat.ne_of_lt (Nat.lt_succ_self _)
  have below : ∀ b, b < s₂.heap.objs.size → b ≠ C ∧ b ≠ D := fun b hb => by
    rw [hDe] at hb
    exact ⟨by rw [hC]; exact Nat.ne_of_lt (Nat.lt_succ_of_lt hb), Nat.ne_of_lt hb⟩
  have hDf : D ∉ fp := fun hm => (below _ (hfp _ hm)).2 rfl
  have hCf : C ∉ fp := fun hm => (below _ (hfp _ hm)).1 rfl
  have hIf : I ∈ fp := W.sub I (List.mem_singleton.mpr rfl)
  have hIlt : I < s₂.heap.objs.size := hfp I hIf
  have old : ∀ b o, s₂.heap.get? b = some o → h₁.get? b = some o := fun b o e => hsb₁.extBut b o (below b (Heap.lt_size e)).1 (Heap.get?_push_of_some _ (hH2 ▸ Heap.get?_push_of_some _ e))
  have hacc : h₁.get? D = some (lst []) := hsb₁.extBut _ _ hDC (Heap.get?_push_of_some _ (hH2 ▸ hDe ▸ Heap.get?_push_size _ rfl))
  have hst₁ : St 0 h₁ := W.frame _ _ _ hst fun b _ o e => old b o e
  have fresh₀ : ∀ a, D ≤ a → h₀.get? a = none := fun a ha => by
    cases e : h₀.get? a with
    | none => rfl
    | some o' => exact absurd (Heap.lt_size (F.keep a o' e)) (Nat.not_lt.mpr (hDe ▸ ha))
  have hD₀ : h₀.get? D = none := fresh₀ _ (Nat.le_refl _)
  have hC₀ : h₀.get? C = none := fresh₀ _ (by rw [hC]; exact Nat.le_succ _)
  have hLlt : L < s₂.heap.objs.size := F.ns.lt
  have hDL : D ≠ L := Ne.symm (below L hLlt).2
  have hCL : C ≠ L := Ne.symm (below L hLlt).1
  have hCI : I ≠ C := (below I hIlt).1
  have hDI : I ≠ D := (below I hIlt).2
  have hadrlt : ∀ a ∈ adr, a ≠ C ∧ a ≠ D ∧ a ≠ I := fun a ha => by
    rw [← hadr c₀] at ha
    obtain ⟨p, hp, rfl⟩ := List.mem_map.mp ha
    have hp' := List.mem_append.mpr (Or.inl hp : _ ∨ p ∈ fr₀)
    exact ⟨(below _ (Heap.lt_size (N p hp').1)).1, (below _ (Heap.lt_size (N p hp').1)).2, hIn p hp'⟩
  have loop : ∀ s₃ : Shared, s₃ = { s₂ with heap := h₁, toks := s₂.toks + ([] : List (Str × Value)).length } →
      codeAny (model prog w) A (.compLoop (.ListComp elt [⟨.Name x px, iter, ifs, 0⟩] scope pos) 0 (.ref I) (.ref D) (compEnvC scope cl C env)) (RR (.ref D) C) s₃ := by
    rintro s₃ rfl
    refine codeAny_compLoop_tests
      (fun k s' => ∃ h' tk i c ys m' fr, s' = { s₂ with heap := h', toks := tk } ∧ i ≤ n ∧ k = n + 1 - i ∧ ys.length ≤ i ∧ St i h' ∧ Fr h₀ L h' m ∧ h'.Ns C m' ∧ News h₀ L h' ((D, lst ys) :: (mu c ++ fr)) ∧
        (∀ p ∈ mu c ++ fr, p.1 ≠ I ∧ p.1 ≠ C ∧ p.1 ≠ D) ∧ Grow fr₀ fr ∧ OffA adr fr ∧ Inv i c ys fr) ?_ (n + 1)
      ⟨h₁, _, 0, c₀, [], _, fr₀, rfl, Nat.zero_le _, rfl, Nat.le_refl _, hst₁, F.keeps old, hns₁, fun p hp => ?_, fun p hp => ⟨hIn p hp, below _ (Heap.lt_size (N p hp).1)⟩, Grow.refl, off, h0⟩
    · rintro k s' ⟨h', tk, i, c, ys, m', fr, rfl, hi, rfl, hyl, hst', F', hn', N', off3, hG, hoff, hI⟩
      by_cases hlt : i < n
      · refine W.item i _ _ _ hlt hst' fun v h₂ tk₂ hPv hst₂ hk₂ => ?_
        refine wpAny_assign_Name (wpAny_storeName_local (lookup_relabel_local hx) (hn'.at' fun o e => hk₂ _ o (by simpa using Ne.symm hCI) e) (fun h₃ hn₃ hs₃ => ?_) (by simp [compEnvC, relabel, hkind]))
        have hst₃ : St (i + 1) h₃ := W.frame _ _ _ hst₂ fun b hb o e => hs₃.extBut b o (fun q => hCf (by have q' : b = C := q; rw [← q']; exact hb)) e
        obtain ⟨oI, heI, hTI⟩ := hIo _ _ hst₃
        obtain ⟨oC, heC, hoC⟩ := ns_obj hn₃
        have F₃ : Fr h₀ L h₃ m := (fr_but F' hk₂ hIL hI₀).change hs₃ hCL hC₀
        have N₂ : News h₀ L h₂ ((D, lst ys) :: (mu c ++ fr)) := news_but N' hk₂ fun p hp => by
          rcases List.mem_cons.mp hp with rfl | hp
          · exact Ne.symm hDI
          · exact (off3 p hp).1
        have N₃ : News h₀ L h₃ (mu c ++ ((I, oI) :: (C, oC) :: (D, lst ys) :: fr)) := by
          have up : ∀ p ∈ (D, lst ys) :: (mu c ++ fr), h₃.get? p.1 = some p.2 ∧ p.1 ≠ L ∧ h₀.get? p.1 = none := fun p hp => by
            have z := N₂ p hp
            refine ⟨hs₃.extBut _ _ ?_ z.1, z.2⟩
            rcases List.mem_cons.mp hp with rfl | hp
            · exact hDC
            · exact (off3 p hp).2.1
          intro p hp
          rcases List.mem_append.mp hp with hp | hp
          · exact up p (.tail _ (List.mem_append.mpr (.inl hp)))
          · rcases List.mem_cons.mp hp with rfl | hp
            · exact ⟨heI, Ne.symm hIL, hI₀⟩
            · rcases List.mem_cons.mp hp with rfl | hp
              · exact ⟨heC, hCL, hC₀⟩
              · rcases List.mem_cons.mp hp with rfl | hp
                · exact up _ (.head _)
                · exact up p (.tail _ (List.mem_append.mpr (.inr hp)))
        have hoff₃ : OffA adr ((I, oI) :: (C, oC) :: (D, lst ys) :: fr) := fun a ha p hp => by
          obtain ⟨q1, q2, q3⟩ := hadrlt a ha
          rcases List.mem_cons.mp hp with rfl | hp
          · exact .inr (Ne.symm q3)
          · rcases List.mem_cons.mp hp with rfl | hp
            · exact .inr (Ne.symm q1)
            · rcases List.mem_cons.mp hp with rfl | hp
              · exact .inr (Ne.symm q2)
              · exact hoff a ha p hp
        -- what a turn's end leaves
        have fin : ∀ (ys' : List Value) (s₄ : Shared), CTurnEnd h₀ L m mu adr (fun c' fr' => Inv (i + 1) c' ys' fr') ((I, oI) :: (C, oC) :: (D, lst ys) :: fr) { s₂ with heap := h₃, toks := tk₂ + 1 } s₄ →
            ∃ h₄ tk₄ c' fr', s₄ = { s₂ with heap := h₄, toks := tk₄ } ∧ Fr h₀ L h₄ m ∧ St (i + 1) h₄ ∧ h₄.get? C = some oC ∧ News h₀ L h₄ ((D, lst ys) :: (mu c' ++ fr')) ∧ (∀ p ∈ mu c' ++ fr', p.1 ≠ I ∧ p.1 ≠ C ∧ p.1 ≠ D) ∧ Grow fr₀ fr' ∧ OffA adr fr' ∧ Inv (i + 1) c' ys' fr' := by
          rintro ys' s₄ ⟨h₄, tk₄, c', fr', rfl, F₄, N₄, g, o₄, hI₄⟩
          have zI := N₄ (I, oI) (mem_apR (g.1 _ (.head _)))
          have zC := N₄ (C, oC) (mem_apR (g.1 _ (.tail _ (.head _))))
          have zD := N₄ (D, lst ys) (mem_apR (g.1 _ (.tail _ (.tail _ (.head _)))))
          have hsub : Sub fr (fr'.filter fun p => !(p.1 == I) && !(p.1 == C) && !(p.1 == D)) := fun p hp => List.mem_filter.mpr ⟨g.1 _ (.tail _ (.tail _ (.tail _ hp))), by
            obtain ⟨q1, q2, q3⟩ := off3 p (mem_apR hp)
            simp [q1, q2, q3]⟩
          have kept : ∀ p ∈ fr'.filter fun p => !(p.1 == I) && !(p.1 == C) && !(p.1 == D), p ∈ fr' ∧ p.1 ≠ I ∧ p.1 ≠ C ∧ p.1 ≠ D := fun p hp => by
            obtain ⟨a, b⟩ := List.mem_filter.mp hp
            refine ⟨a, ?_⟩
            simpa [and_assoc] using b
          have st : SubT fr' (fr'.filter fun p => !(p.1 == I) && !(p.1 == C) && !(p.1 == D)) := fun p hp hT => by
            have z := N₄ p (mem_apR hp)
            have q1 : p.1 ≠ I := fun e => by
              have z' := z.1
              rw [e, zI.1] at z'
              have e' : oI = p.2 := Option.some.inj z'
              exact hTI (e' ▸ hT)
            have q2 : p.1 ≠ C := fun e => by
              have z' := z.1
              rw [e, zC.1] at z'
              obtain ⟨es, ep, hd, _⟩ := hoC
              have := hT.2
              rw [← Option.some.inj z', hd] at this
              cases this
            have q3 : p.1 ≠ D := fun e => by
              have z' := z.1
              rw [e, zD.1] at z'
              have := hT.1
              rw [← Option.some.inj z'] at this
              exact absurd (Value.type.inj this) (by decide)
            exact List.mem_filter.mpr ⟨hp, by simp [q1, q2, q3]⟩
          have hmu : ∀ p ∈ mu c', p.1 ≠ I ∧ p.1 ≠ C ∧ p.1 ≠ D := fun p hp => by
            obtain ⟨q1, q2, q3⟩ := hadrlt p.1 (hadr c' ▸ List.mem_map.mpr ⟨p, hp, rfl⟩)
            exact ⟨q3, q1, q2⟩
          have N₅ : News h₀ L h₄ ((D, lst ys) :: (mu c' ++ fr'.filter fun p => !(p.1 == I) && !(p.1 == C) && !(p.1 == D))) := fun p hp => by
            rcases List.mem_cons.mp hp with rfl | hp
            · exact zD
            · rcases List.mem_append.mp hp with hp | hp
              · exact N₄ p (mem_apL hp)
              · exact N₄ p (mem_apR (kept p hp).1)
          refine ⟨h₄, tk₄, c', _, rfl, F₄, hSt _ _ _ _ hst₃ (zI.1.trans heI.symm) F₄.keep (fun p hp => N₅ p (.tail _ (mem_apR hp))) (hG.1.trans hsub), zC.1, N₅, fun p hp => ?_, ⟨hG.1.trans hsub, fun p hp => ?_⟩, fun a ha p hp => o₄ a ha p (kept p hp).1, hmono _ _ _ _ _ st hI₄⟩
          · rcases List.mem_append.mp hp with hp | hp
            · exact hmu p hp
            · exact (kept p hp).2
          · obtain ⟨a, q1, q2, q3⟩ := kept p hp
            rcases g.2 p a with q | q
            · rcases List.mem_cons.mp q with rfl | q
              · exact absurd rfl q1
              · rcases List.mem_cons.mp q with rfl | q
                · exact absurd rfl q2
                · rcases List.mem_cons.mp q with rfl | q
                  · exact absurd rfl q3
                  · exact hG.2 p q
            · exact .inr q
        refine wpAny_mono (turn i v c ys fr I oI C oC D _ h₃ (tk₂ + 1) _ hlt hPv hG.1 hI hoC (by simp) hoff₃ F₃ N₃) (fun ok s₄ h₄ => ?_) fun _ _ e => e
        cases ok with
        | true =>
          simp only [if_true] at h₄ ⊢
          refine wpAny_mono h₄ (fun y s₅ h₅ => ?_) fun _ _ e => e
          obtain ⟨h₄, tk₄, c', fr', rfl, F₄, hst₄, zC, N₄, off₄, g₄, o₄, hI₄⟩ := fin _ _ h₅
          have zD := N₄ (D, lst ys) (.head _)
          refine append_at (hsz := by show ys.toArray.size ≤ sizeLine; rw [List.size_toArray]; exact hsz i c ys fr hlt hI) zD.1 fun h₅ hs₅ hD₅ => ?_
          refine ⟨n + 1 - (i + 1), by omega, h₅, tk₄, i + 1, c', ys ++ [y], _, fr', rfl, hlt, rfl, by rw [List.length_append, List.length_singleton]; exact Nat.succ_le_succ hyl, W.frame _ _ _ hst₄ fun b hb o e => hs₅.extBut b o (fun q => hDf (q ▸ hb)) e, F₄.change hs₅ hDL hD₀,
            (hoC.ns zC).sameBut hs₅ (Ne.symm hDC), fun p hp => ?_, off₄, g₄, o₄, hI₄⟩
          rcases List.mem_cons.mp hp with rfl | hp
          · exact ⟨hD₅.trans (congrArg some (lst_snoc ys y)), hDL, hD₀⟩
          · exact ⟨hs₅.extBut _ _ (off₄ p hp).2.2 (N₄ p (.tail _ hp)).1, (N₄ p (.tail _ hp)).2⟩
        | false =>
          simp only [Bool.false_eq_true, if_false] at h₄ ⊢
          obtain ⟨h₆, tk₄, c', fr', rfl, F₄, hst₄, zC, N₄, off₄, g₄, o₄, hI₄⟩ := fin _ _ h₄
          exact ⟨n + 1 - (i + 1), by omega, h₆, tk₄, i + 1, c', ys, _, fr', rfl, hlt, rfl, Nat.le_succ_of_le hyl, hst₄, F₄, hoC.ns zC, N₄, off₄, g₄, o₄, hI₄⟩
      · obtain rfl : i = n := Nat.le_antisymm hi (Nat.not_lt.mp hlt)
        refine W.done _ _ _ hst' fun h₂ tk₂ hk₂ => ?_
        exact hRR _ _ h₂ tk₂ _ c ys fr (fr_but F' hk₂ hIL hI₀) (news_but N' hk₂ fun p hp => by
          rcases List.mem_cons.mp hp with rfl | hp
          · exact Ne.symm hDI
          · exact (off3 p hp).1) (fun p hp => ⟨(off3 p hp).2.2, (off3 p hp).2.1⟩) (hn'.at' fun o e => hk₂ _ o (by simpa using Ne.symm hCI) e) hC₀ hD₀ hCL hDL (Ne.symm hDC) hG hoff hI
    · rcases List.mem_cons.mp hp with rfl | hp
      · exact ⟨hacc, hDL, hD₀⟩
      · exact ⟨old _ _ (N p hp).1, (N p hp).2⟩
  subst hCe hDe
  exact codeAny_compStart_list (loop _ rfl) (W.self 0 _ _ _ hst₁ (loop _ rfl))
end
section
open PyProof.Rows.LCg
variable {prog : Program} {w : World} {A : Around} {E : Value → Shared → Prop} {s : Shared} {h₀ : Heap} {L : Addr} {m : Str → Option Value} {env : Env}
noncomputable def ItSrc (prog : Program) (w : World) (A : Around) (h₀ : Heap) (L : Addr) (fr₀ : Led) (n : Nat) (P : Nat → Value → Prop) (xv : Value) (s₁ : Shared) : Prop :=
  ∀ (Q : Value → Shared → Prop) (E : Value → Shared → Prop), (∀ fp St h₂, Walks prog w A s₁.heap.objs.size fp [s₁.heap.objs.size] n P St → (∀ i h, St i h → ∃ o, h.get? s₁.heap.objs.size = some o ∧ ¬ TupO o) →
    (∀ i h h' fr, St i h → h'.get? s₁.heap.objs.size = h.get? s₁.heap.objs.size → (∀ b o, h₀.get? b = some o → h'.get? b = some o) → News h₀ L h' fr → Sub fr₀ fr → St i h') → St 0 h₂ → (∀ b ∈ fp, b < h₂.objs.size) →
    (∀ b o, s₁.heap.get? b = some o → h₂.get? b = some o) → Q (.ref s₁.heap.objs.size) { s₁ with heap := h₂ }) → wpAny (model prog w) A (pyIter xv) Q E s₁
theorem ItSrc.range {r : Addr} {a b : Int} {t u v : Tok} {n : Nat} {fr₀ : Led} {s₁ : Shared} (hh : A.handled = none) (hr : IsRange s₁.heap r a b 1 t u v) (hsm : Builtin.Range.small a b 1 = true) (hn : Builtin.Range.rangeSize a b 1 = ((n : Nat) : Int)) :
    ItSrc prog w A h₀ L fr₀ n (fun i v => ∃ t, v = .int (a + (i : Int)) t) (.ref r) s₁ := fun Q E k => by
  refine wpAny_pyIter_range hr hsm (k [s₁.heap.objs.size] _ _ (range_walks hh a n) (fun i h st => ⟨_, st, fun x => absurd (Value.type.inj x.1) (by decide)⟩) (fun i h h' fr st e _ _ _ => ?_) (by show IsRangeIter _ _ _ _ _; rw [hn]; simpa using Heap.get?_push_size _ rfl) (fun b hb => ?_) (fun _ _ e => Heap.get?_push_of_some _ e))
  · have st' : h.get? s₁.heap.objs.size = some _ := st
    show h'.get? _ = some _
    rw [e]; exact st'
  · rw [List.mem_singleton.mp hb, Heap.size_push]
    exact Nat.lt_succ_self _
theorem ItSrc.tuple {ax : Addr} {vs : List Value} {fr₀ : Led} {s₁ : Shared} (hh : A.handled = none) (e : s₁.heap.get? ax = some (tupO vs)) (hs : (ax, tupO vs) ∈ fr₀ ∨ h₀.get? ax = some (tupO vs)) :
    ItSrc prog w A h₀ L fr₀ vs.toArray.size (fun i v => vs.toArray[i]? = some v) (.ref ax) s₁ := fun Q E k => by
  have hl : s₁.heap.IsTuple ax vs.toArray := ⟨_, e, rfl, _, rfl⟩
  have hlt : ax < s₁.heap.objs.size := Heap.lt_size e
  refine wpAny_pyIter_tuple hl (k [s₁.heap.objs.size, ax] _ _ (Walks.tuple hh s₁.heap.objs.size ax (Nat.ne_of_lt hlt) vs.toArray) (fun i h st => ?_) (fun i h h' fr st e kp N sb => ⟨?_, ?_⟩) ⟨⟨_, Heap.get?_push_size _ rfl, rfl, rfl⟩, hl.push _⟩ (fun b hb => ?_) (fun _ _ e => Heap.get?_push_of_some _ e))
  · obtain ⟨o, e, _, hd⟩ := st.1
    exact ⟨o, e, fun x => by have := x.2; rw [hd] at this; cases this⟩
  · obtain ⟨o, q, hd⟩ := st.1
    exact ⟨o, e.trans q, hd⟩
  · exact ⟨_, hs.elim (fun m => (N _ (sb _ m)).1) (kp _ _), rfl, _, rfl⟩
  · rw [Heap.size_push]
    rcases List.mem_cons.mp hb with rfl | hb
    · exact Nat.lt_succ_self _
    · rw [List.mem_singleton.mp hb]; exact Nat.lt_succ_of_lt hlt
theorem ItSrc.list {ax : Addr} {its : Array Value} {k : Nat} {fr₀ : Led} {s₁ : Shared} (hh : A.handled = none) (e : s₁.heap.get? ax = some (listOf its k)) (hs : (ax, listOf its k) ∈ fr₀) :
    ItSrc prog w A h₀ L fr₀ its.size (fun i v => its[i]? = some v) (.ref ax) s₁ := fun Q E kk => by
  have hl : s₁.heap.IsList ax its := ⟨_, e, rfl, k, rfl⟩
  have hlt : ax < s₁.heap.objs.size := Heap.lt_size e
  refine wpAny_pyIter_list hl (kk [s₁.heap.objs.size, ax] _ _ (Walks.list hh s₁.heap.objs.size ax (Nat.ne_of_lt hlt) its) (fun i h st => ?_) (fun i h h' fr st e kp N sb => ⟨?_, ?_⟩) ⟨⟨_, Heap.get?_push_size _ rfl, rfl, rfl⟩, hl.push _⟩ (fun b hb => ?_) (fun _ _ e => Heap.get?_push_of_some _ e))
  · obtain ⟨o, e, _, hd⟩ := st.1
    exact ⟨o, e, fun x => by have := x.2; rw [hd] at this; cases this⟩
  · obtain ⟨o, q, hd⟩ := st.1
    exact ⟨o, e.trans q, hd⟩
  · exact ⟨_, (N _ (sb _ hs)).1, rfl, k, rfl⟩
  · rw [Heap.size_push]
    rcases List.mem_cons.mp hb with rfl | hb
    · exact Nat.lt_succ_self _
    · rw [List.mem_singleton.mp hb]; exact Nat.lt_succ_of_lt hlt
noncomputable def CSrc (prog : Program) (w : World) (A : Around) (elt iter : Expr) (ifs : List Expr) (x : Str) (px : Pos) (scope : Scope) (cl : List (Str × Addr)) (pos : Pos) (env : Env) (use : Option (Value → Sem Unit)) (E : Value → Shared → Prop) (Q : Value → Shared → Prop) (xv : Value) (s₁ : Shared) : Prop :=
  wpAny (model prog w) A (pyIter xv) (fun it s₂ => wpAny (model prog w) A (newList []) (fun acc s₃ => wpAny (model prog w) A (newFunctionEnv scope env.globals cl [] env.qual none .none (some env)) (fun cenv s₄ =>
    codeAny (model prog w) A (.compStart (.ListComp elt [⟨.Name x px, iter, ifs, 0⟩] scope pos) 0 it acc { cenv with scope := relabel scope env }) (compPost (model prog w) A E use Q acc cenv.locals) s₄) E s₃) E s₂) E s₁
theorem comp_eval {elt iter : Expr} {ifs : List Expr} {x : Str} {px : Pos} {scope : Scope} {cl : List (Str × Addr)} {pos : Pos} {Q : Value → Shared → Prop}
    (hclos : closureFor scope env = pure cl) (hkind : scope.kind = .function) (hnames : ∀ y ∈ scope.names, y.2 = .local → scope.names.lookup y.1 = some .local)
    (h : wpAny (model prog w) A (eval iter env) (CSrc prog w A elt iter ifs x px scope cl pos env none E Q) E s)
    (hs : ∀ x, foldedSetIterable iter env x = pure x) :
    wpAny (model prog w) A (eval (.ListComp elt [⟨.Name x px, iter, ifs, 0⟩] scope pos) env) Q E s := by
  rw [eval_ListComp]
  exact wpAny_comprehension_free (use := none) rfl hs hclos hkind hnames h
theorem comp_assign {elt iter : Expr} {ifs : List Expr} {x y : Str} {px py : Pos} {scope : Scope} {cl : List (Str × Addr)} {pos spos : Pos} {Q : Flow → Shared → Prop}
    (hsw : swapsWith (.ListComp elt [⟨.Name x px, iter, ifs, 0⟩] scope pos) (some (.Name y py)) spos.line env = pure true)
    (hclos : closureFor scope env = pure cl) (hkind : scope.kind = .function) (hnames : ∀ y ∈ scope.names, y.2 = .local → scope.names.lookup y.1 = some .local)
    (h : wpAny (model prog w) A (eval iter env) (CSrc prog w A elt iter ifs x px scope cl pos env (some (assign (.Name y py) env)) E (fun _ s' => Q .next s')) E s)
    (hs : ∀ x, foldedSetIterable iter env x = pure x) :
    wpAny (model prog w) A (exec (.Assign [.Name y py] (.ListComp elt [⟨.Name x px, iter, ifs, 0⟩] scope pos) spos) env) Q E s := by
  rw [exec_Assign_Name_used _ _ _ _ hsw]
  refine wpAny_bind (wpAny_standAt (wpAny_bind ?_))
  show wpAny _ A (do let _ ← comprehension (.ListComp elt [⟨.Name x px, iter, ifs, 0⟩] scope pos) scope env _ (newList []) false (eval iter env) (some (assign (.Name y py) env))) _ _ s
  exact wpAny_bind (wpAny_mono (wpAny_comprehension_free (use := some (assign (.Name y py) env)) (Q := fun _ s' => Q .next s') rfl hs hclos hkind hnames h) (fun _ s' hq => wpAny_pure (wpAny_pure hq)) fun _ _ e => e)
section
variable {σ : Type} {elt iter : Expr} {ifs : List Expr} {x y : Str} {px py : Pos} {scope : Scope} {cl : List (Str × Addr)} {pos : Pos} {Q : Value → Shared → Prop} {n : Nat} {P : Nat → Value → Prop} {xv : Value} {s₁ : Shared}
theorem CSrc.go (mu : σ → Led) (adr : List Addr) (Inv : Nat → σ → List Value → Led → Prop) (c₀ : σ) (fr₀ : Led) (hadr : ∀ c, (mu c).map (·.1) = adr) (hmono : ∀ i c ys fr fr', SubT fr fr' → Inv i c ys fr → Inv i c ys fr')
    (src : ItSrc prog w A h₀ L fr₀ n P xv s₁) (hsz : ∀ i c ys fr, i < n → Inv i c ys fr → ys.length ≤ sizeLine) (hcell : ∀ y ∈ scope.names, y.2 ≠ .cell) (hkind : scope.kind = .function) (hx : scope.names.lookup x = some .local)
    (F : Fr h₀ L s₁.heap m) (N : News h₀ L s₁.heap (mu c₀ ++ fr₀)) (off : OffA adr fr₀) (h0 : Inv 0 c₀ [] fr₀) (turn : CTurn prog w A h₀ L m env ifs elt x scope cl s₁ mu adr n P Inv fr₀)
    (fin : ∀ D h tk c ys fr, Grow fr₀ fr → OffA adr fr → (∀ p ∈ mu c ++ fr, p.1 ≠ D) → Inv n c ys fr → Fr h₀ L h m → News h₀ L h ((D, lst ys) :: (mu c ++ fr)) → Q (.ref D) { s₁ with heap := h, toks := tk }) :
    CSrc prog w A elt iter ifs x px scope cl pos env none E Q xv s₁ := by
  refine src _ _ fun fp St h₂ W hIo hSt hst hfp old => ?_
  refine block_fr (s₂ := { s₁ with heap := h₂ }) mu adr Inv c₀ fr₀ hadr hmono W hsz hIo hSt hcell hkind hx hst hfp (F.keeps old) (N.grown old) (Nat.ne_of_lt F.ns.lt) (next_is_new F) (fun p hp => Nat.ne_of_lt (Heap.lt_size (N p hp).1)) off h0 turn ?_
  intro D C h tk m' c ys fr F' N' nD hn hC₀ hD₀ hCL hDL hCD g o hI
  refine ⟨m', hn, fun h'' hs'' => fin D h'' tk c ys fr g o (fun p hp => (nD p hp).1) hI (F'.change hs'' hCL hC₀) (fun p hp => ?_)⟩
  refine ⟨hs''.extBut _ _ ?_ (N' p hp).1, (N' p hp).2⟩
  rcases List.mem_cons.mp hp with rfl | hp
  · exact Ne.symm hCD
  · exact (nD p hp).2
theorem CSrc.goA (mu : σ → Led) (adr : List Addr) (Inv : Nat → σ → List Value → Led → Prop) (c₀ : σ) (fr₀ : Led) (hadr : ∀ c, (mu c).map (·.1) = adr) (hmono : ∀ i c ys fr fr', SubT fr fr' → Inv i c ys fr → Inv i c ys fr')
    (hLe : env.locals = L) (hy : env.kindOf y = some .local) (hp : (env.scope.kind == .class || (env.scope.kind == .module && env.locals != env.globals)) = false)
    (src : ItSrc prog w A h₀ L fr₀ n P xv s₁) (hsz : ∀ i c ys fr, i < n → Inv i c ys fr → ys.length ≤ sizeLine) (hcell : ∀ y ∈ scope.names, y.2 ≠ .cell) (hkind : scope.kind = .function) (hx : scope.names.lookup x = some .local)
    (F : Fr h₀ L s₁.heap m) (N : News h₀ L s₁.heap (mu c₀ ++ fr₀)) (off : OffA adr fr₀) (h0 : Inv 0 c₀ [] fr₀) (turn : CTurn prog w A h₀ L m env ifs elt x scope cl s₁ mu adr n P Inv fr₀)
    (fin : ∀ D h tk c ys fr, Grow fr₀ fr → OffA adr fr → (∀ p ∈ mu c ++ fr, p.1 ≠ D) → Inv n c ys fr → Fr h₀ L h (fun z => if z = y then some (.ref D) else m z) → News h₀ L h ((D, lst ys) :: (mu c ++ fr)) → Q .none { s₁ with heap := h, toks := tk }) :
    CSrc prog w A elt iter ifs x px scope cl pos env (some (assign (.Name y py) env)) E Q xv s₁ := by
  subst hLe
  refine src _ _ fun fp St h₂ W hIo hSt hst hfp old => ?_
  refine block_fr (s₂ := { s₁ with heap := h₂ }) mu adr Inv c₀ fr₀ hadr hmono W hsz hIo hSt hcell hkind hx hst hfp (F.keeps old) (N.grown old) (Nat.ne_of_lt F.ns.lt) (next_is_new F) (fun p hp => Nat.ne_of_lt (Heap.lt_size (N p hp).1)) off h0 turn ?_
  intro D C h tk m' c ys fr F' N' nD hn hC₀ hD₀ hCL hDL hCD g o hI
  show wpAny _ A (assign (.Name y py) env (.ref D)) _ _ _
  refine wpAny_assign_Name (wpAny_storeName_local hy F'.ns (fun h₂ hn₂ hs₂ => ?_) hp)
  have hL₀ : h₀.get? env.locals = none := Heap.get?_none_of_le F'.above
  have F₂ : Fr h₀ env.locals h₂ (fun z => if z = y then some (.ref D) else m z) := ⟨hn₂, fun b o e => hs₂.extBut b o (fun q => by rw [q, hL₀] at e; cases e) (F'.keep b o e), F'.above⟩
  refine ⟨m', hn.sameBut hs₂ hCL, fun h'' hs'' => fin D h'' _ c ys fr g o (fun p hp => (nD p hp).1) hI (F₂.change hs'' hCL hC₀) (fun p hp => ?_)⟩
  refine ⟨hs''.extBut _ _ ?_ (hs₂.extBut _ _ (N' p hp).2.1 (N' p hp).1), (N' p hp).2⟩
  rcases List.mem_cons.mp hp with rfl | hp
  · exact Ne.symm hCD
  · exact (nD p hp).2
end
end

end
--PART A11bTup
section
section
variable {prog : Program} {w : World} {A : Around} {E : Value → Shared → Prop} {s : Shared} {h₀ : Heap} {L : Addr} {m : Str → Option Value} {news : Led}
theorem sliceApplied_two {sl : Addr} {k : Int} {u : Tok} (hk : k = 1 ∨ k = 2) {Q : Int × Int × Nat → Shared → Prop} (hs : s.heap.IsSliceOf sl .none (.int k u) .none) (h : Q (0, 1, k.toNat) s) :
    wpAny (model prog w) A (Builtin.Slice.sliceApplied (.ref sl) (pure (2 : Int))) Q E s := by
  obtain ⟨os, hos, hcs, hds⟩ := id hs
  unfold Builtin.Slice.sliceApplied Builtin.Slice.sliceFields
  refine wpAny_bind (wpAny_bind (wpAny_field hos hds (x := .none) rfl (wpAny_bind (wpAny_field hos hds (x := .int k u) rfl (wpAny_bind (wpAny_field hos hds (x := .none) rfl (wpAny_pure ?_)))))))
  refine wpAny_bind (slicePart_none ?_)
  show wpAny _ _ (if ((1 : Int) == 0) = true then _ else _) _ _ s
  rw [if_neg (by decide)]
  refine wpAny_bind (slicePart_none (wpAny_bind (slicePart_int (wpAny_bind (wpAny_pure ?_)))))
  obtain rfl | rfl := hk
  · exact wpAny_pure h
  · exact wpAny_pure h
theorem getItem_two {t sl : Addr} {p q : Value} {k : Int} {u : Tok} {Q : Value → Shared → Prop} (ht : IsTup s.heap t [p, q].toArray) (hs : s.heap.IsSliceOf sl .none (.int k u) .none) (hk : k = 1 ∨ k = 2)
    (h1 : Q (.ref s.heap.objs.size) { s with heap := s.heap.push { cls := .type "tuple", data := .seq #[p] } }) (h2 : Q (.ref t) s) : wpAny (model prog w) A (getItem (.ref t) (.ref sl)) Q E s := by
  obtain ⟨os, hos, hcs, hds⟩ := id hs
  have hTs : s.TypeIs (.ref sl) "slice" := ⟨os, hos, hcs⟩
  unfold getItem
  try with_reducible refine wpAny_holding ?_
  first | refine wpAny_bind (wpAny_pure ?_) | skip
  refine wpAny_bind (wpAny_sequenceKey ht.typeIs (by decide) ?_)
  refine wpAny_bind (wpAny_callSpecial?_slot (name := Str.ofString "__getitem__") ht.typeIs slot_tuple_getitem
    (wpAny_call_entry slot_tuple_getitem ht.typeIs entry_tuple_getitem ?_ (args_tuple_getitem _ _)))
  show wpAny _ _ (Builtin.Tuple.tupleItemsOf (.ref t) >>= _) _ _ s
  refine wpAny_bind (tupleItemsOf_ ht ?_)
  refine wpAny_bind (wpAny_typeOf hTs ?_)
  rw [if_pos (by decide)]
  refine wpAny_bind (sliceApplied_two hk hs ?_)
  obtain rfl | rfl := hk
  · show wpAny _ _ (if ((0 : Int) == 0 && (1 : Int) == 1 && (1 : Nat) == 2) = true then _ else _) _ _ s
    rw [if_neg (by decide)]
    first
      | exact wpAny_bind (m := Builtin.Tuple.tupleExact _) (wpAny_newObj_type (wpAny_pure ⟨_, rfl, wpAny_pure h1⟩) (Nat.le_of_ble_eq_true rfl))
      | exact wpAny_bind (m := Builtin.Tuple.tupleExact _) (wpAny_newObj_type (wpAny_bind (wpAny_pure (wpAny_pure ⟨_, rfl, wpAny_pure h1⟩))) (Nat.le_of_ble_eq_true rfl))
      | exact wpAny_bind (wpAny_bind (m := Builtin.Tuple.tupleExact _) (wpAny_newObj_type (wpAny_pure (wpAny_pure ⟨_, rfl, wpAny_pure h1⟩)) (Nat.le_of_ble_eq_true rfl)))
      | exact wpAny_bind (wpAny_bind (m := Builtin.Tuple.tupleExact _) (wpAny_newObj_type (wpAny_pure ⟨_, rfl, wpAny_pure h1⟩) (Nat.le_of_ble_eq_true rfl)))
  · show wpAny _ _ (if ((0 : Int) == 0 && (1 : Int) == 1 && (2 : Nat) == 2) = true then _ else _) _ _ s
    rw [if_pos (by decide)]
    refine wpAny_bind (wpAny_bind (wpAny_typeOf ht.typeIs ?_))
    exact wpAny_pure (by rw [if_pos (by decide)]; exact wpAny_bind (wpAny_rule (wpAny_pure ⟨_, rfl, wpAny_pure h2⟩)))
theorem slice_two {value slice : Expr} {t : Addr} {p q : Value} {k : Int} {u : Tok} {Q : Value → Shared → Prop}
    (F : Fr h₀ L s.heap m) (N : News h₀ L s.heap news) (hm : (t, tupO [p, q]) ∈ news) (hk0 : 1 ≤ k) (hk : k ≤ 2)
    (h : ∀ r vs h', (vs = [p] ∨ vs = [p, q]) → Fr h₀ L h' m → News h₀ L h' ((r, tupO vs) :: news) → Q (.ref r) { s with heap := h' })
    (hs : subscripted slice false (.ref t) (.ref s.heap.objs.size) = operate [.ref s.heap.objs.size, .ref t] (getItem (.ref t) (.ref s.heap.objs.size)) := by with_unfolding_all rfl)
    (hg : ∀ r, letTemporaryGo value (.ref t) r = pure () := by intro _; with_unfolding_all rfl) :
    wpAny (model prog w) A (subscriptTail value slice (.ref t) (.ref s.heap.objs.size)) Q E { s with heap := s.heap.push { cls := .type "slice", data := .fields #[.none, .int k u, .none] } } := by
  have ht : IsTup s.heap t [p, q].toArray := ⟨_, (N _ hm).1, rfl, _, rfl⟩
  have ht' : IsTup (s.heap.push { cls := .type "slice", data := .fields #[.none, .int k u, .none] }) t [p, q].toArray := ht.keeps fun _ _ e => Heap.get?_push_of_some _ e
  have N' : News h₀ L (s.heap.push { cls := .type "slice", data := .fields #[.none, .int k u, .none] }) news := N.grown fun _ _ e => Heap.get?_push_of_some _ e
  refine subscriptTail_ops (s := { s with heap := s.heap.push { cls := .type "slice", data := .fields #[.none, .int k u, .none] } }) ht'.typeIs slot_tuple_getitem.lookup
    (getItem_two ht' (Heap.IsSliceOf.new ..) (by omega) ?_ ?_) hs hg
  · exact h _ [p] _ (.inl rfl) ((F.push _).push _) (News.push (F.push { cls := .type "slice", data := .fields #[.none, .int k u, .none] }) N' { cls := .type "tuple", data := .seq #[p] })
  · refine h t [p, q] _ (.inr rfl) (F.push _) fun x hx => ?_
    rcases List.mem_cons.mp hx with rfl | hx
    · exact N' _ hm
    · exact N' x hx
end

end
--PART A23cOne
section
section
variable {prog : Program} {w : World} {A : Around} {E : Value → Shared → Prop} {s : Shared} {env : Env} {h₀ : Heap} {target : Expr} {body : List Stmt} {Q : Flow → Shared → Prop}
/-- the one turn's end of a loop over a tuple of one -/
noncomputable def OnePost (h₀ : Heap) (L I : Addr) (oI : Obj) (c : Addr) (vs : List Value) (s : Shared) (Q : Flow → Shared → Prop) (f : Flow) (s₂ : Shared) : Prop :=
  match f with
  | .ret v => Q (.ret v) s₂
  | .brk => Q .next s₂
  | _ => ∃ h' tk m' news', s₂ = { s with heap := h', toks := tk } ∧ Fr h₀ L h' m' ∧ News h₀ L h' ((I, oI) :: news') ∧ (c, tupO vs) ∈ news' ∧ (∀ p ∈ news', p.1 ≠ I) ∧ ∀ h tk, Fr h₀ L h m' → News h₀ L h news' → Q .next { s with heap := h, toks := tk }
theorem one_end {L I c : Addr} {oI : Obj} {vs : List Value} {h : Heap} {tk : Nat} {m' : Str → Option Value} {all news' : Led} (hoI : oI.cls = .type "tuple_iterator") (F : Fr h₀ L h m') (N : News h₀ L h all) (hs : Pick (I, oI) all news') (hc : (c, tupO vs) ∈ news') (off : Off I news')
    (k : ∀ h tk, Fr h₀ L h m' → News h₀ L h news' → Q .next { s with heap := h, toks := tk }) : OnePost h₀ L I oI c vs s Q .next { s with heap := h, toks := tk } := by
  have N' : News h₀ L h ((I, oI) :: news') := fun p m => N p (hs.sub p m)
  exact ⟨h, tk, m', news', rfl, F, N', hc, off.ok N' (by rw [hoI]; exact fun e => absurd (Value.type.inj e) (by decide)), k⟩
theorem loop_one0 {c : Addr} {m : Str → Option Value} {news : Led} (hm : (c, tupO []) ∈ news) (hh : A.handled = none) (F : Fr h₀ env.locals s.heap m) (N : News h₀ env.locals s.heap news)
    (k : ∀ h tk, Fr h₀ env.locals h m → News h₀ env.locals h news → Q .next { s with heap := h, toks := tk }) :
    wpAny (model prog w) A (pyIter (.ref c)) (fun it s₂ => TurnsAt prog w A h₀ env target body Q E it s₂) E s := by
  have hl : s.heap.IsTuple c (#[] : Array Value) := ⟨tupO [], (N _ hm).1, rfl, _, rfl⟩
  have hne : c ≠ s.heap.objs.size := Nat.ne_of_lt (Heap.lt_size (N _ hm).1)
  refine wpAny_pyIter_tuple hl ?_
  refine ⟨s.heap.objs.size, _, _, _, _, _, _, m, news, fun _ m' n' => m' = m ∧ n' = news, rfl, KTurns.ofWalks (Walks.tuple hh s.heap.objs.size c hne #[]) fun i v s Q E st q => letGo_tupleiter st.1 q, ?_, ?_, ?_, ⟨⟨_, Heap.get?_push_size _ rfl, rfl, rfl⟩, hl.at fun o e => Heap.get?_push_of_some _ e⟩, F.push _, (fun p hp => ⟨Heap.get?_push_of_some _ (N p hp).1, (N p hp).2⟩), ⟨rfl, rfl⟩, ?_, ?_⟩
  · intro hI
    rcases List.mem_cons.mp hI with e | hI
    · exact absurd F.ns.lt (e ▸ Nat.lt_irrefl _)
    · exact (N _ hm).2.1 (List.mem_singleton.mp hI).symm
  · intro b hb
    rw [List.mem_singleton.mp hb]
    exact next_is_new F
  · intro p hp hI
    exact absurd (Heap.lt_size (N p hp).1) ((List.mem_singleton.mp hI) ▸ Nat.lt_irrefl _)
  · intro i v m₁ n₁ h₁ tk₁ own hi
    exact absurd hi (Nat.not_lt_zero _)
  · rintro h' tk m' n' F' N' _ ⟨rfl, rfl⟩
    exact k h' tk F' N'
theorem loop_one {c : Addr} {v : Value} {m : Str → Option Value} {news : Led} (hm : (c, tupO [v]) ∈ news) (hh : A.handled = none) (F : Fr h₀ env.locals s.heap m) (N : News h₀ env.locals s.heap news)
    (turn : ∀ I oI h tk, (∀ p ∈ news, p.1 < I) → oI.cls = .type "tuple_iterator" → Fr h₀ env.locals h m → News h₀ env.locals h ((I, oI) :: news) →
      wpAny (model prog w) A (assign target env v) (fun _ s₃ => wpAny (model prog w) A (execs body env) (OnePost h₀ env.locals I oI c [v] s Q) E s₃) E { s with heap := h, toks := tk }) :
    wpAny (model prog w) A (pyIter (.ref c)) (fun it s₂ => TurnsAt prog w A h₀ env target body Q E it s₂) E s := by
  have hl : s.heap.IsTuple c #[v] := ⟨tupO [v], (N _ hm).1, rfl, _, rfl⟩
  have hne : c ≠ s.heap.objs.size := Nat.ne_of_lt (Heap.lt_size (N _ hm).1)
  have hlt : ∀ p ∈ news, p.1 < s.heap.objs.size := fun p hp => Heap.lt_size (N p hp).1
  refine wpAny_pyIter_tuple hl ?_
  refine ⟨s.heap.objs.size, _, _, _, _, _, _, m, news, fun i m' n' => match i with | 0 => m' = m ∧ n' = news | _ + 1 => ∀ h tk, Fr h₀ env.locals h m' → News h₀ env.locals h n' → Q .next { s with heap := h, toks := tk }, rfl, KTurns.ofWalks (Walks.tuple hh s.heap.objs.size c hne #[v]) fun i v s Q E st q => letGo_tupleiter st.1 q, ?_, ?_, ?_, ⟨⟨_, Heap.get?_push_size _ rfl, rfl, rfl⟩, hl.at fun o e => Heap.get?_push_of_some _ e⟩, F.push _, (fun p hp => ⟨Heap.get?_push_of_some _ (N p hp).1, (N p hp).2⟩), ⟨rfl, rfl⟩, ?_, ?_⟩
  · intro hI
    rcases List.mem_cons.mp hI with e | hI
    · exact absurd F.ns.lt (e ▸ Nat.lt_irrefl _)
    · exact (N _ hm).2.1 (List.mem_singleton.mp hI).symm
  · intro b hb
    rw [List.mem_singleton.mp hb]
    exact next_is_new F
  · intro p hp hI
    exact absurd (Heap.lt_size (N p hp).1) ((List.mem_singleton.mp hI) ▸ Nat.lt_irrefl _)
  · intro i v' m₁ n₁ h₁ tk₁ own hi hP hJ hnw hof hog hall hst F₁ N₁
    have hi0 : i = 0 := Nat.lt_one_iff.mp hi
    subst hi0
    obtain ⟨rfl, rfl⟩ := hJ
    have hv : v' = v := (Option.some.inj hP).symm
    subst hv
    obtain ⟨⟨oI, e1, e2, _⟩, _⟩ := hst
    have hI : (s.heap.objs.size, oI) ∈ own := hall _ (by simp) (next_is_new F) _ e1
    have N₂ : News h₀ env.locals h₁ ((s.heap.objs.size, oI) :: n₁) := fun p hp => N₁ p (by
      rcases List.mem_cons.mp hp with rfl | hp
      · exact mem_apL hI
      · exact mem_apR hp)
    refine wpAny_mono (turn _ oI h₁ tk₁ hlt e2 F₁ N₂) (fun _ s₂ x => wpAny_mono x (fun f s₃ p => ?_) fun _ _ e => e) fun _ _ e => e
    have fin : ∀ f', OnePost h₀ env.locals s.heap.objs.size oI c [v'] s Q .next s₃ → f' = .next → LoopStepU h₀ env.locals [s.heap.objs.size] own (fun m' n' => ∀ h tk, Fr h₀ env.locals h m' → News h₀ env.locals h n' → Q .next { s with heap := h, toks := tk }) { s with heap := h₁, toks := tk₁ } f' s₃ := by
      rintro _ ⟨h', tk', m', n', rfl, F', N', hc, ho, k⟩ rfl
      refine ⟨rfl, h', tk', m', n', rfl, F', ?_, ?_, k⟩
      · intro p hp
        rcases List.mem_append.mp hp with hp | hp
        · have q := hog p hp
          rcases List.mem_cons.mp (hof p hp) with e | e
          · rw [e, e1] at q
            have : p = (s.heap.objs.size, oI) := Prod.ext e (Option.some.inj q).symm
            exact this ▸ N' _ (.head _)
          · have e := List.mem_singleton.mp e
            have q2 := (N₁ _ (mem_apR hm)).1
            dsimp only at q2
            rw [e, q2] at q
            have : p = (c, tupO [v']) := Prod.ext e (Option.some.inj q).symm
            exact this ▸ N' _ (.tail _ hc)
        · exact N' p (.tail _ hp)
      · intro p hp hI
        exact ho p hp (List.mem_singleton.mp hI)
    cases f with
    | ret v => exact p
    | brk => exact p
    | next => exact fin _ p rfl
    | cont => exact fin _ p rfl
  · intro h' tk m' n' F' N' _ hJ
    exact hJ h' tk F' N'
end

end
--PART A23dEnum
section
section
open PyProof.Rows.LCg
variable {prog : Program} {w : World} {A : Around} {E : Value → Shared → Prop} {s : Shared} {h₀ : Heap} {L : Addr} {m : Str → Option Value} {env : Env}
/-- a comprehension over enumerate(list) whose value is dropped -/
noncomputable def EnSrc (prog : Program) (w : World) (A : Around) (elt iter : Expr) (tgt : Expr) (scope : Scope) (cl : List (Str × Addr)) (pos : Pos) (env : Env) (use : Option (Value → Sem Unit)) (E : Value → Shared → Prop) (Q : Value → Shared → Prop) (xv : Value) (s₁ : Shared) : Prop :=
  wpAny (model prog w) A (pyIter xv) (fun it s₂ => wpAny (model prog w) A (newList []) (fun acc s₃ => wpAny (model prog w) A (newFunctionEnv scope env.globals cl [] env.qual none .none (some env)) (fun cenv s₄ =>
    codeAny (model prog w) A (.compStart (.ListComp elt [⟨tgt, iter, [], 0⟩] scope pos) 0 it acc { cenv with scope := relabel scope env }) (compPost (model prog w) A E use Q acc cenv.locals) s₄) E s₃) E s₂) E s₁
theorem comp_assignT {elt iter tgt : Expr} {y : Str} {py : Pos} {scope : Scope} {cl : List (Str × Addr)} {pos spos : Pos} {Q : Flow → Shared → Prop}
    (hsw : swapsWith (.ListComp elt [⟨tgt, iter, [], 0⟩] scope pos) (some (.Name y py)) spos.line env = pure true)
    (hclos : closureFor scope env = pure cl) (hkind : scope.kind = .function) (hnames : ∀ y ∈ scope.names, y.2 = .local → scope.names.lookup y.1 = some .local)
    (h : wpAny (model prog w) A (eval iter env) (EnSrc prog w A elt iter tgt scope cl pos env (some (assign (.Name y py) env)) E (fun _ s' => Q .next s')) E s)
    (hs : ∀ x, foldedSetIterable iter env x = pure x) :
    wpAny (model prog w) A (exec (.Assign [.Name y py] (.ListComp elt [⟨tgt, iter, [], 0⟩] scope pos) spos) env) Q E s := by
  rw [exec_Assign_Name_used _ _ _ _ hsw]
  refine wpAny_bind (wpAny_standAt (wpAny_bind ?_))
  show wpAny _ A (do let _ ← comprehension (.ListComp elt [⟨tgt, iter, [], 0⟩] scope pos) scope env _ (newList []) false (eval iter env) (some (assign (.Name y py) env))) _ _ s
  exact wpAny_bind (wpAny_mono (wpAny_comprehension_free (use := some (assign (.Name y py) env)) (Q := fun _ s' => Q .next s') rfl hs hclos hkind hnames h) (fun _ s' hq => wpAny_pure (wpAny_pure hq)) fun _ _ e => e)
theorem comp_evalT {elt iter tgt : Expr} {scope : Scope} {cl : List (Str × Addr)} {pos : Pos} {Q : Value → Shared → Prop}
    (hclos : closureFor scope env = pure cl) (hkind : scope.kind = .function) (hnames : ∀ y ∈ scope.names, y.2 = .local → scope.names.lookup y.1 = some .local)
    (h : wpAny (model prog w) A (eval iter env) (EnSrc prog w A elt iter tgt scope cl pos env none E Q) E s)
    (hs : ∀ x, foldedSetIterable iter env x = pure x) :
    wpAny (model prog w) A (eval (.ListComp elt [⟨tgt, iter, [], 0⟩] scope pos) env) Q E s := by
  rw [eval_ListComp]
  exact wpAny_comprehension_free (use := none) rfl hs hclos hkind hnames h
noncomputable def EnTurn (prog : Program) (w : World) (A : Around) (h₀ : Heap) (L : Addr) (m : Str → Option Value) (env : Env) (elt : Expr) (a b : Str) (scope : Scope) (cl : List (Str × Addr)) (s : Shared) (n : Nat) (vs : List Value) (news : Led) : Prop :=
  ∀ (i : Nat) x t fr C oC m₂ h tk (E' : Value → Shared → Prop), i < n → vs[i]? = some x → NsObj oC m₂ → m₂ a = some (.int (i : Int) t) → m₂ b = some x → (C, oC) ∈ fr → Sub news fr → Fr h₀ L h m → News h₀ L h fr →
    wpAny (model prog w) A (eval elt (compEnvC scope cl C env)) (fun _ s'' => ∃ h' tk', s'' = { s with heap := h', toks := tk' } ∧ Fr h₀ L h' m ∧ News h₀ L h' fr) E' { s with heap := h, toks := tk }
theorem en_ar {it D C : Nat} (hD : D = it + 2) (hC : C = D + 1) : (it + 1 ≠ C ∧ it + 1 ≠ D) ∧ (it ≠ C ∧ it ≠ D) ∧ (D ≠ it ∧ D ≠ it + 1 ∧ D ≠ C) ∧ (C ≠ it ∧ C ≠ it + 1) ∧ it ≤ D ∧ it ≤ C := by omega
theorem en_lt {a it D C : Nat} (h : a < it) (hD : D = it + 2) (hC : C = D + 1) : a ≠ it ∧ a ≠ it + 1 ∧ a ≠ D ∧ a ≠ C := by omega
theorem enum_go {elt iter : Expr} {a b : Str} {pa pb tp : Pos} {kk : Nat} {scope : Scope} {cl : List (Str × Addr)} {pos : Pos} {l : Addr} {vs : List Value} {q : Nat} {news : Led} {Q : Value → Shared → Prop} {y : Str} {py : Pos}
    (hLe : env.locals = L) (hy : env.kindOf y = some .local) (hpp : (env.scope.kind == .class || (env.scope.kind == .module && env.locals != env.globals)) = false) (hh : A.handled = none) (hcell : ∀ y ∈ scope.names, y.2 ≠ .cell) (hkind : scope.kind = .function) (hxa : scope.names.lookup a = some .local) (hxb : scope.names.lookup b = some .local) (hab : ¬ a = b)
    (F : Fr h₀ L s.heap m) (N : News h₀ L s.heap news) (hm : (l, listOf vs.toArray q) ∈ news) (hsz : vs.length ≤ sizeLine)
    (turn : EnTurn prog w A h₀ L m env elt a b scope cl s vs.length vs news)
    (fin : ∀ D h tk, Fr h₀ L h (fun z => if z = y then some (.ref D) else m z) → News h₀ L h news → Q .none { s with heap := h, toks := tk }) :
    wpAny (model prog w) A (call (.type "enumerate") [.ref l]) (EnSrc prog w A elt iter (.Tuple [.Name a pa, .Name b pb] kk tp) scope cl pos env (some (assign (.Name y py) env)) E Q) E s := by
  subst hLe
  have hlist : s.heap.IsList l vs.toArray := N.isList hm
  have hlt : l < s.heap.objs.size := Heap.lt_size (N _ hm).1
  refine call_enumerate_list hlist fun g hE hI hgz hk => ?_
  generalize hit : s.heap.objs.size = it at hE hI hgz hlt
  have hne1 : l ≠ it := Nat.ne_of_lt hlt
  have hne2 : l ≠ it + 1 := Nat.ne_of_lt (Nat.lt_succ_of_lt hlt)
  have W := WalksT.enumerate (prog := prog) (w := w) hh (it + 1) it l (Nat.succ_ne_self _) hne2 hne1 vs.toArray
  have hn0 : vs.toArray.size = vs.length := List.size_toArray
  rw [hn0] at W
  have F1 : Fr h₀ env.locals g m := F.keeps hk
  have N1 : News h₀ env.locals g news := fun p hp => ⟨hk _ _ (N p hp).1, (N p hp).2⟩
  have hbel : ∀ p ∈ news, p.1 < it := fun p hp => hit ▸ Heap.lt_size (N p hp).1
  have hLlt : env.locals < it := hit ▸ F.ns.lt
  have h0n : ∀ c, it ≤ c → h₀.get? c = none := fun c hc => by
    cases e : h₀.get? c with
    | none => rfl
    | some o => exact absurd (Heap.lt_size (F.keep c o e)) (by rw [hit]; exact Nat.not_lt.mpr hc)
  have st0 : (∃ old, IsEnum g (it + 1) it 0 old) ∧ g.IsListIter it l 0 ∧ g.IsList l vs.toArray := ⟨⟨_, hE⟩, hI, hlist.at fun o e => hk _ _ e⟩
  refine W.self 0 _ _ _ st0 ?_
  refine wpAny_newObj_type (wpAny_newFunctionEnv hcell (by intro y hy; simp at hy) (fun h₁ hns₁ hsb₁ => ?_) hkind)
  dsimp only at hns₁ hsb₁ ⊢
  generalize hH2 : g.push { cls := .type "list", dict := none, data := .seq ([] : List Value).toArray } = H2 at hns₁ hsb₁ ⊢
  generalize hDe : g.objs.size = D at hH2 ⊢
  generalize hCe : H2.objs.size = C at hns₁ hsb₁ ⊢
  have hDz : D = it + 2 := by rw [← hDe, hgz]
  have hC : C = D + 1 := by rw [← hCe, ← hH2, Heap.size_push, hDe]
  have old : ∀ b o, g.get? b = some o → h₁.get? b = some o := fun b o e => hsb₁.extBut b o (Nat.ne_of_lt (by rw [hC]; exact Nat.lt_succ_of_lt (hDe ▸ Heap.lt_size e))) (Heap.get?_push_of_some _ (hH2 ▸ Heap.get?_push_of_some _ e))
  have hacc : h₁.get? D = some (lst []) := hsb₁.extBut _ _ (by rw [hC]; exact Nat.ne_of_lt (Nat.lt_succ_self _)) (Heap.get?_push_of_some _ (hH2 ▸ hDe ▸ Heap.get?_push_size _ rfl))
  have ar := en_ar hDz hC
  have hD₀ : h₀.get? D = none := h0n _ ar.2.2.2.2.1
  have hC₀ : h₀.get? C = none := h0n _ ar.2.2.2.2.2
  have fpC : ∀ c ∈ [it + 1, it, l], c ≠ C ∧ c ≠ D := fun c hc => by
    simp only [List.mem_cons, List.not_mem_nil, or_false] at hc
    rcases hc with rfl | rfl | rfl
    · exact ar.1
    · exact ar.2.1
    · exact ⟨(en_lt hlt hDz hC).2.2.2, (en_lt hlt hDz hC).2.2.1⟩
  have nb : ∀ p ∈ news, p.1 ≠ it ∧ p.1 ≠ it + 1 ∧ p.1 ≠ D ∧ p.1 ≠ C := fun p hp => by
    exact en_lt (hbel p hp) hDz hC
  have hLn : env.locals ≠ it ∧ env.locals ≠ it + 1 ∧ env.locals ≠ D ∧ env.locals ≠ C := by
    exact en_lt hLlt hDz hC
  have hDn : D ≠ it ∧ D ≠ it + 1 ∧ D ≠ C := by
    exact ar.2.2.1
  have st1 : (∃ old, IsEnum h₁ (it + 1) it 0 old) ∧ h₁.IsListIter it l 0 ∧ h₁.IsList l vs.toArray := W.frame _ _ _ st0 fun b _ o e => old b o e
  have hCn : C ≠ it ∧ C ≠ it + 1 := by
    exact ar.2.2.2.1
  have loop : ∀ s₃ : Shared, s₃ = { s with heap := h₁, toks := s.toks + ([] : List (Str × Value)).length } →
      codeAny (model prog w) A (.compLoop (.ListComp elt [⟨.Tuple [.Name a pa, .Name b pb] kk tp, iter, [], 0⟩] scope pos) 0 (.ref (it + 1)) (.ref D) (compEnvC scope cl C env)) (compPost (model prog w) A E (some (assign (.Name y py) env)) Q (.ref D) C) s₃ := by
    rintro s₃ rfl
    refine kcp_loop
      (fun k s' => ∃ h' tk i ys m', s' = { s with heap := h', toks := tk } ∧ i ≤ vs.length ∧ k = vs.length + 1 - i ∧ ys.length = i ∧ ((∃ old, IsEnum h' (it + 1) it i old) ∧ h'.IsListIter it l i ∧ h'.IsList l vs.toArray) ∧ Fr h₀ env.locals h' m ∧ h'.Ns C m' ∧
        News h₀ env.locals h' ((D, lst ys) :: news)) ?_ (vs.length + 1)
      ⟨h₁, _, 0, [], _, rfl, Nat.zero_le _, rfl, rfl, st1, F1.keeps old, hns₁, fun p hp => ?_⟩
    · rintro k s' ⟨h', tk, i, ys, m', rfl, hi, rfl, hyl, st, F', hn', N'⟩
      by_cases hlt : i < vs.length
      · refine W.item i _ _ _ hlt st fun T vals h₂ tk₂ hPt hTz hT hMd hk₂ => ?_
        have hTw := W.apart i T h₂ hMd
        refine W.go _ _ _ i T _ _ _ hMd fun h₃ st₃ hk₃ => ?_
        obtain ⟨t, x, hx, rfl⟩ := hPt
        have hT₃ : h₃.IsTuple T #[.int i t, x] := hT.at fun o e => hk₃ T o hTw e
        have up₃ : ∀ c o, c ≠ it → c ≠ it + 1 → h'.get? c = some o → h₃.get? c = some o := fun c o c1 c2 e => hk₃ c o (by simp [c1, c2]) (hk₂ c o (by simp [c1, c2]) e)
        refine kcp_assign (env := compEnvC scope cl C env) hh hT₃ (lookup_relabel_local hxa) (lookup_relabel_local hxb) (by simp [compEnvC, relabel, hkind]) (hn'.at' fun o e => up₃ _ o hCn.1 hCn.2 e) fun h₄ tk₄ hn₄ hs₄ => ?_
        have up : ∀ c o, c ≠ it → c ≠ it + 1 → c ≠ C → h'.get? c = some o → h₄.get? c = some o := fun c o c1 c2 c3 e => hs₄ c o c3 (up₃ c o c1 c2 e)
        have st₄ := W.frame _ _ _ st₃ fun b hb o e => hs₄ b o (fpC b hb).1 e
        obtain ⟨oe, heE⟩ : ∃ oe, h₄.get? (it + 1) = some oe := let ⟨⟨_, z⟩, _⟩ := st₄; ⟨_, z⟩
        obtain ⟨oi, heI⟩ : ∃ oi, h₄.get? it = some oi := let ⟨_, ⟨o, z, _⟩, _⟩ := st₄; ⟨o, z⟩
        obtain ⟨oC, heC, hoC⟩ := ns_obj hn₄
        have F₄ : Fr h₀ env.locals h₄ m := ⟨F'.ns.at' fun o e => up _ o hLn.1 hLn.2.1 hLn.2.2.2 e, fun c o e => up c o (fun q => by rw [q, h0n _ (Nat.le_refl _)] at e; cases e) (fun q => by rw [q, h0n _ (Nat.le_succ _)] at e; cases e) (fun q => by rw [q, hC₀] at e; cases e) (F'.keep c o e), F'.above⟩
        have N₄ : News h₀ env.locals h₄ ((it + 1, oe) :: (it, oi) :: (C, oC) :: (D, lst ys) :: news) := fun q hq => by
          rcases List.mem_cons.mp hq with rfl | hq
          · exact ⟨heE, Ne.symm hLn.2.1, h0n _ (Nat.le_succ _)⟩
          · rcases List.mem_cons.mp hq with rfl | hq
            · exact ⟨heI, Ne.symm hLn.1, h0n _ (Nat.le_refl _)⟩
            · rcases List.mem_cons.mp hq with rfl | hq
              · exact ⟨heC, Ne.symm hLn.2.2.2, hC₀⟩
              · have z := N' q hq
                rcases List.mem_cons.mp hq with rfl | hq
                · exact ⟨up _ _ hDn.1 hDn.2.1 hDn.2.2 z.1, z.2⟩
                · have y := nb q hq
                  exact ⟨up _ _ y.1 y.2.1 y.2.2.2 z.1, z.2⟩
        refine wpAny_mono (turn i x t _ C oC _ h₄ tk₄ _ hlt (by simpa using hx) hoC (by simp [hab]) (by simp) (.tail _ (.tail _ (.head _))) (fun p hp => .tail _ (.tail _ (.tail _ (.tail _ hp)))) F₄ N₄) (fun y s₅ h₅ => ?_) fun _ _ e => e
        obtain ⟨h₅, tk₅, rfl, F₅, N₅⟩ := h₅
        have zD := (N₅ (D, lst ys) (.tail _ (.tail _ (.tail _ (.head _))))).1
        have zC := (N₅ (C, oC) (.tail _ (.tail _ (.head _)))).1
        have st₅ := W.frame _ _ h₅ st₄ fun b hb o e => by
          simp only [List.mem_cons, List.not_mem_nil, or_false] at hb
          rcases hb with rfl | rfl | rfl
          · rw [heE] at e; cases e; exact (N₅ _ (.head _)).1
          · rw [heI] at e; cases e; exact (N₅ _ (.tail _ (.head _))).1
          · have z := (N₄ _ (.tail _ (.tail _ (.tail _ (.tail _ hm))))).1
            dsimp only at z
            rw [z] at e; cases e
            exact (N₅ _ (.tail _ (.tail _ (.tail _ (.tail _ hm))))).1
        refine append_at (hsz := by show ys.toArray.size ≤ sizeLine; rw [List.size_toArray, hyl]; exact Nat.le_trans hi hsz) zD fun h₆ hs₆ hD₆ => ?_
        refine ⟨vs.length + 1 - (i + 1), by omega, h₆, tk₅, i + 1, ys ++ [y], _, rfl, hlt, rfl, by rw [List.length_append, List.length_singleton, hyl], W.frame _ _ _ st₅ fun b hb o e => hs₆.extBut b o (fpC b hb).2 e, F₅.change hs₆ (Ne.symm hLn.2.2.1) hD₀,
          (hoC.ns zC).sameBut hs₆ (Ne.symm hDn.2.2), fun q hq => ?_⟩
        rcases List.mem_cons.mp hq with rfl | hq
        · exact ⟨hD₆.trans (congrArg some (lst_snoc ys y)), Ne.symm hLn.2.2.1, hD₀⟩
        · have z := N₅ q (.tail _ (.tail _ (.tail _ (.tail _ hq))))
          exact ⟨hs₆.extBut _ _ (nb q hq).2.2.1 z.1, z.2⟩
      · obtain rfl : i = vs.length := Nat.le_antisymm hi (Nat.not_lt.mp hlt)
        refine W.done _ _ _ st fun h₂ tk₂ hk₂ => ?_
        have up : ∀ c o, c ≠ it → c ≠ it + 1 → h'.get? c = some o → h₂.get? c = some o := fun c o c1 c2 e => hk₂ c o (by simp [c1, c2]) e
        have F₂ : Fr h₀ env.locals h₂ m := ⟨F'.ns.at' fun o e => up _ o hLn.1 hLn.2.1 e, fun c o e => up c o (fun q => by rw [q, h0n _ (Nat.le_refl _)] at e; cases e) (fun q => by rw [q, h0n _ (Nat.le_succ _)] at e; cases e) (F'.keep c o e), F'.above⟩
        have hL₀ : h₀.get? env.locals = none := Heap.get?_none_of_le F₂.above
        have hn₂ : h₂.Ns C m' := hn'.at' fun o e => up _ o hCn.1 hCn.2 e
        show wpAny _ A (assign (.Name y py) env (.ref D)) _ _ _
        refine wpAny_assign_Name (wpAny_storeName_local hy F₂.ns (fun h₃ hn₃ hs₃ => ?_) hpp)
        have F₃ : Fr h₀ env.locals h₃ (fun z => if z = y then some (.ref D) else m z) := ⟨hn₃, fun b o e => hs₃.extBut b o (fun q => by rw [q, hL₀] at e; cases e) (F₂.keep b o e), F₂.above⟩
        refine ⟨m', hn₂.sameBut hs₃ (Ne.symm hLn.2.2.2), fun h'' hs'' => fin D h'' _ (F₃.change hs'' (Ne.symm hLn.2.2.2) hC₀) fun p hp => ?_⟩
        have y := nb p hp
        have z := N' p (.tail _ hp)
        exact ⟨hs''.extBut _ _ y.2.2.2 (hs₃.extBut _ _ z.2.1 (up _ _ y.1 y.2.1 z.1)), z.2⟩
    · rcases List.mem_cons.mp hp with rfl | hp
      · exact ⟨hacc, Ne.symm hLn.2.2.1, hD₀⟩
      · exact ⟨old _ _ (N1 p hp).1, (N1 p hp).2⟩
  exact codeAny_compStart_list (loop _ rfl) (W.self 0 _ _ _ st1 (loop _ rfl))
end

end
--PART A25dSort
section
theorem strict_ext : ∀ {a b : List Int}, a.Pairwise (· < ·) → b.Pairwise (· < ·) → (∀ y, y ∈ a ↔ y ∈ b) → a = b
  | [], [], _, _, _ => rfl
  | [], y :: t, _, _, h => absurd ((h y).mpr (.head _)) (fun z => nomatch z)
  | x :: r, [], _, _, h => absurd ((h x).mp (.head _)) (fun z => nomatch z)
  | x :: r, y :: t, ha, hb, h => by
    have a1 := List.pairwise_cons.mp ha
    have b1 := List.pairwise_cons.mp hb
    have e : x = y := by
      rcases List.mem_cons.mp ((h x).mp (.head _)) with e | e
      · exact e
      · rcases List.mem_cons.mp ((h y).mpr (.head _)) with f | f
        · exact f.symm
        · have := a1.1 y f
          have := b1.1 x e
          omega
    subst e
    rw [strict_ext a1.2 b1.2 fun z => ⟨fun hz => ?_, fun hz => ?_⟩]
    · rcases List.mem_cons.mp ((h z).mp (.tail _ hz)) with e | e
      · have := a1.1 z hz; omega
      · exact e
    · rcases List.mem_cons.mp ((h z).mpr (.tail _ hz)) with e | e
      · have := b1.1 z hz; omega
      · exact e
theorem strict_of : ∀ {a : List Int}, a.Pairwise (· ≤ ·) → a.Nodup → a.Pairwise (· < ·)
  | [], _, _ => .nil
  | x :: r, h, n => by
    have h1 := List.pairwise_cons.mp h
    have n1 := List.nodup_cons.mp n
    refine .cons (fun y hy => ?_) (strict_of h1.2 n1.2)
    have := h1.1 y hy
    have : x ≠ y := fun e => n1.1 (e ▸ hy)
    omega
theorem small_len' : ∀ (n : Nat) {ks : List Int}, ks.Nodup → (∀ y ∈ ks, 0 ≤ y ∧ y < (n : Int)) → ks.length ≤ n
  | 0, [], _, _ => Nat.le_refl _
  | 0, x :: _, _, hb => by
    have := hb x (.head _)
    omega
  | n + 1, ks, hn, hb => by
    by_cases hm : (n : Int) ∈ ks
    · have := small_len' n (hn.erase (n : Int)) fun y hy => by
        have h1 := hb y (List.mem_of_mem_erase hy)
        have h2 : y ≠ (n : Int) := fun e => (hn.mem_erase_iff.mp (e ▸ hy)).1 rfl
        omega
      rw [List.length_erase_of_mem hm] at this
      omega
    · have := small_len' n hn fun y hy => by
        have h1 := hb y hy
        have h2 : y ≠ (n : Int) := fun e => hm (e ▸ hy)
        omega
      omega
theorem small_len {ks : List Int} (hn : ks.Nodup) (hb : ∀ y ∈ ks, 0 ≤ y ∧ y < 8) : ks.length ≤ 8 := small_len' 8 hn hb
theorem ints_keys {prog : Program} {w : World} : ∀ {vs : List Value} {kvs : List (Int × Value)}, vs.length = kvs.length → (∀ (j : Nat) v, vs[j]? = some v → ∃ k x, kvs[j]? = some (k, x) ∧ (PySem.intKind prog w).is k v = true) → IntsAre vs (kvs.map (·.1))
  | [], [], _, _ => .nil
  | v :: r, (k, x) :: t, hl, h => by
    obtain ⟨k', x', e, hk⟩ := h 0 v rfl
    have e' := Option.some.inj e
    cases e'
    obtain ⟨u, rfl⟩ := Value.isInt_shape hk
    exact .cons _ _ (ints_keys (prog := prog) (w := w) (by simpa using hl) fun j v hv => h (j + 1) v (by simpa using hv))
section
variable {prog : Program} {w : World} {A : Around} {E : Value → Shared → Prop} {s : Shared} {h₀ : Heap} {L : Addr} {m : Str → Option Value}
theorem sorted_dict {fo : Addr} {od : Obj} {kvs : List (Int × Value)} {news : Led} {Q : Value → Shared → Prop} (hd : od.IsDictOf (PySem.intKind prog w) kvs) (hh : A.handled = none) (F : Fr h₀ L s.heap m) (N : News h₀ L s.heap news) (hm : (fo, od) ∈ news) (lo : (fo == sysModules) = false)
    (hb : ∀ y ∈ kvs.map (·.1), 0 ≤ y ∧ y < 8)
    (h : ∀ D its q ks h' tk', IntsAre its.toList ks → ks.Pairwise (· < ·) → (∀ y, y ∈ ks ↔ y ∈ kvs.map (·.1)) → (∀ p ∈ news, p.1 < D) → Fr h₀ L h' m → News h₀ L h' ((D, listOf its q) :: news) → Q (.ref D) { s with heap := h', toks := tk' }) :
    wpAny (model prog w) A (call (.builtin "sorted") [.ref fo]) Q E s := by
  have hnd : (kvs.map (·.1)).Nodup := let ⟨_, _, _, _, _, _, h⟩ := hd; h
  have h8 := small_len hnd hb
  rw [List.length_map] at h8
  obtain ⟨ep, hat⟩ := (Heap.dictOf_iff.mpr ⟨od, (N _ hm).1, hd⟩ : s.heap.DictOf (PySem.intKind prog w) fo kvs).dictAt
  refine kdu_sorted (kdl_dict (knd := PySem.intKind prog w) (kvs := kvs) (ep := ep) lo) hh F N hat (by rw [sizeLine_eq]; omega) fun D h' tk vs F' N' hlt hl hv => ?_
  have hI := ints_keys (prog := prog) (w := w) hl hv
  have z := N' (D, listOf vs.toArray 0) (.head _)
  refine wpAny_call_entry PyProof.Rows.slot_list_sort ⟨_, z.1, rfl⟩ PyProof.Rows.entry_list_sort (list_sort_tree (n := 0) (vs := vs) z.1 hI (by omega) fun out ns' hI' hp hP => ⟨.none, rfl, ?_⟩) (PyProof.Rows.args_list_sort _)
  have hne : ∀ p ∈ news, p.1 ≠ D := fun p hp => Nat.ne_of_lt (hlt p hp)
  have N1 := ki_turn (pre := []) (fun _ => (#[] : Array Value)) N' (fun p hp => nomatch hp) hne rfl rfl
  have F1 : Fr h₀ L (h'.update D (Obj.mapSeq fun _ => (#[] : Array Value))) m := F'.change (Heap.SameBut.update ..) z.2.1 z.2.2
  have N2 := News.grown N1 fun _ _ e => Heap.get?_push_of_some (seqObj "tuple" vs.toArray 0) e
  have N3 := News.grown N2 fun _ _ e => Heap.get?_push_of_some (seqObj "list" #[] 0) e
  have N4 := ki_turn (pre := []) (fun _ => out) N3 (fun p hp => nomatch hp) hne rfl rfl
  have F4 : Fr h₀ L ((((h'.update D (Obj.mapSeq fun _ => (#[] : Array Value))).push (seqObj "tuple" vs.toArray 0)).push (seqObj "list" #[] 0)).update D (Obj.mapSeq fun _ => out)) m :=
    ((F1.push (seqObj "tuple" vs.toArray 0)).push (seqObj "list" #[] 0)).change (Heap.SameBut.update ..) z.2.1 z.2.2
  exact h D out _ ns' _ tk hI' (strict_of hP (hp.nodup_iff.mpr hnd)) (fun y => hp.mem_iff) hlt F4 N4
end

end
--PART A05Take
section
theorem room_le {a b c n : Nat} (h : a ≤ b) (e : Nat.ble (b + n) c = true) : a + n ≤ c := Nat.le_trans (Nat.add_le_add_right h n) (Nat.le_of_ble_eq_true e)
section
variable {M : Model} {A : Around} {E : Value → Shared → Prop} {s : Shared} {K : Frag} {h₀ : Heap} {L a : Addr} {m mg mb : Str → Option Value} {cn : Str} {cs : Scope} {ccd : Value} {p : Program} {loose : List Str}
  {x : Str} {pos : Pos} {v : Value} {Q : Value → Shared → Prop} {news : List (Addr × Obj)} {c : Addr} {o : Obj}
theorem nameC_L (F : Fr h₀ L s.heap m) (hv : m x = some v) (h : Q v s) (hk : cs.kind = .function) (hx : (envOfC cn cs L a ccd).kindOf x = some .local) (hd : (x == ("__debug__" : Str)) = false) :
    wpAny M A (eval (.Name x pos) (envOfC cn cs L a ccd)) Q E s := nameX_L F hv h hk hx hd
theorem nameC_C (N : News h₀ L s.heap news) (hc : (cellsFrom (L + 1) cs.names []).lookup x = some c) (hm : (c, o) ∈ news) (hd : o.data = .cell (some v)) (h : Q v s) (hk : cs.kind = .function) (hx : (envOfC cn cs L a ccd).kindOf x = some .cell) (hb : (x == ("__debug__" : Str)) = false) :
    wpAny M A (eval (.Name x pos) (envOfC cn cs L a ccd)) Q E s := nameX_C N hc hm hd h hk hx hb
theorem nameC_K (F : Fr h₀ L s.heap m) (X : K.In h₀) (T : TopRead p loose mg mb h₀) (e : nsIn K mainGlobals x = some (some v)) (h : Q v s) (hk : cs.kind = .function) (hx : (envOfC cn cs L a ccd).kindOf x = some .globalImplicit) (hd : (x == ("__debug__" : Str)) = false) :
    wpAny M A (eval (.Name x pos) (envOfC cn cs L a ccd)) Q E s := nameX_K F X T e h hk hx hd
theorem nameC_B (F : Fr h₀ L s.heap m) (X : K.In h₀) (T : TopRead p loose mg mb h₀) (e : nsIn K mainGlobals x = some none) (hv : bootBuiltins x = some v) (hn : x ≠ "__name__") (h : Q v s) (hk : cs.kind = .function) (hx : (envOfC cn cs L a ccd).kindOf x = some .globalImplicit) (hd : (x == ("__debug__" : Str)) = false) :
    wpAny M A (eval (.Name x pos) (envOfC cn cs L a ccd)) Q E s := nameX_B F X T e hv hn h hk hx hd
theorem storeC_L {Q : Unit → Shared → Prop} (F : Fr h₀ L s.heap m) (N : News h₀ L s.heap news) (h : ∀ h', Fr h₀ L h' (fun y => if y = x then some v else m y) → News h₀ L h' news → Q () { s with heap := h', toks := s.toks + 1 })
    (hk : cs.kind = .function) (hx : (envOfC cn cs L a ccd).kindOf x = some .local) : wpAny M A (storeName (envOfC cn cs L a ccd) x v) Q E s := storeX_L F N h hk hx
end
--#MACROS
theorem ln1 : True := by
  k_with "eval Name" => (k_here; (with_reducible show wpAny _ _ (eval (PySem.Expr.Name _ _) (envOf _ _ _ _ _)) _ _ _); name_kind "globalImplicit"; k_dflt ((with_reducible refine' name_K ?k0Qz ?k1Qz ?k2Qz ?k3Qz ?_ ?aQz ?bQz ?cQz); (case k0Qz => with_reducible assumption); (case k1Qz => with_reducible assumption); (case k2Qz => k_asm); (case k3Qz => k_is); (case aQz => exact rfl); (case bQz => kernel_rfl!); (case cQz => decide +kernel); k_whole))
  k_with "eval Name" => (k_here; (with_reducible show wpAny _ _ (eval (PySem.Expr.Name _ _) (envOf _ _ _ _ _)) _ _ _); name_kind "globalImplicit"; name_is_builtin; k_dflt ((with_reducible refine' name_B ?k0Qz ?k1Qz ?k2Qz ?k3Qz ?k4Qz ?k5Qz ?_ ?aQz ?bQz ?cQz); (case k0Qz => with_reducible assumption); (case k1Qz => with_reducible assumption); (case k2Qz => k_asm); (case k3Qz => k_is); (case k4Qz => boot_fast); (case k5Qz => decide +kernel); (case aQz => exact rfl); (case bQz => kernel_rfl!); (case cQz => decide +kernel); k_whole))
  k_with "eval Name" => (k_here; (with_reducible show wpAny _ _ (eval (PySem.Expr.Name _ _) (envOf _ _ _ _ _)) _ _ _); name_kind "local"; k_dflt ((with_reducible refine' ld ?k1Qz ?k2Qz ?_ ?aQz ?bQz ?cQz); (case k1Qz => with_reducible assumption); (case aQz => exact rfl); (case bQz => kernel_rfl!); (case cQz => decide +kernel); (case k2Qz => exact rfl); k_whole))
  k_with "eval Name" => (k_here; (with_reducible show wpAny _ _ (eval (PySem.Expr.Name _ _) (envOfC _ _ _ _ _)) _ _ _); k_dflt first | (name_kind "local"; (with_reducible refine' nameC_L ?FQz ?vQz ?_ ?aQz ?bQz ?cQz); (case FQz => with_reducible assumption); (case aQz => exact rfl); (case bQz => kernel_rfl!); (case cQz => decide +kernel); (case vQz => first | exact rfl | assumption); k_whole) | (name_kind "cell"; (with_reducible refine' nameC_C ?NQz ?kQz ?mQz ?dQz ?_ ?aQz ?bQz ?cQz); (case aQz => exact rfl); (case bQz => kernel_rfl!); (case cQz => decide +kernel); (case NQz => with_reducible assumption); (case kQz => exact rfl); (case mQz => k_mem); (case dQz => k_asm); k_whole) | (name_kind "globalImplicit"; name_is_builtin; (with_reducible refine' nameC_B ?FQz ?XQz ?TQz ?eQz ?vQz ?nQz ?_ ?aQz ?bQz ?cQz); (case FQz => with_reducible assumption); (case XQz => with_reducible assumption); (case TQz => k_asm); (case aQz => exact rfl); (case bQz => kernel_rfl!); (case cQz => decide +kernel); (case eQz => k_is); (case vQz => boot_fast); (case nQz => decide +kernel); k_whole) | (name_kind "globalImplicit"; (with_reducible refine' nameC_K ?FQz ?XQz ?TQz ?eQz ?_ ?aQz ?bQz ?cQz); (case FQz => with_reducible assumption); (case XQz => with_reducible assumption); (case TQz => k_asm); (case aQz => exact rfl); (case bQz => kernel_rfl!); (case cQz => decide +kernel); (case eQz => k_is); k_whole))
  k_with "eval Name" => (k_here; (with_reducible show wpAny _ _ (eval (PySem.Expr.Name _ _) (compEnvC _ _ _ _)) _ _ _); k_dflt first | (name_kind "local"; (with_reducible refine' LCgL.ld_own ?NQz ?mQz ?CQz ?xQz ?_ ?aQz ?bQz ?cQz); (case NQz => with_reducible assumption); (case mQz => k_mem); (case CQz => with_reducible assumption); (case xQz => assumption); (case aQz => exact rfl); (case bQz => kernel_rfl!); (case cQz => decide +kernel); k_whole) | (name_kind "globalImplicit"; name_is_builtin; (with_reducible refine' LCgL.ld_built ?FQz ?XQz ?TQz ?eQz ?vQz ?nQz ?_ ?gQz ?hQz ?aQz ?bQz ?cQz); (case FQz => with_reducible assumption); (case XQz => with_reducible assumption); (case TQz => with_reducible assumption); (case gQz => exact rfl); (case hQz => exact rfl); (case aQz => exact rfl); (case bQz => kernel_rfl!); (case cQz => decide +kernel); (case eQz => k_is); (case vQz => boot_fast); (case nQz => decide +kernel); k_whole) | (name_kind "globalImplicit"; (with_reducible refine' LCgL.ld_global ?FQz ?XQz ?TQz ?eQz ?_ ?gQz ?aQz ?bQz ?cQz); (case FQz => with_reducible assumption); (case XQz => with_reducible assumption); (case TQz => with_reducible assumption); (case gQz => exact rfl); (case aQz => exact rfl); (case bQz => kernel_rfl!); (case cQz => decide +kernel); (case eQz => k_is); k_whole) | (name_kind "free"; (with_reducible refine' lcf_free ?NQz ?kQz ?mQz ?dQz ?_ ?aQz ?bQz ?cQz ?eQz); (case aQz => exact rfl); (case bQz => kernel_rfl!); (case cQz => decide +kernel); (case eQz => decide +kernel); (case NQz => with_reducible assumption); (case kQz => exact rfl); (case mQz => k_mem); (case dQz => k_asm); k_whole))
  k_with "newTuple" => (k_here; k_dflt ((with_reducible refine' kup_newTuple ?FQz ?NQz ?_ ?zQz); (case FQz => with_reducible assumption); (case NQz => with_reducible assumption); (case zQz => first | exact Nat.le_of_ble_eq_true rfl | kmk_size)); intro D'e5 h'e5 F'e5 N'e5 l1e5; (try k_sweep))
  k_with "newList" => (k_here; k_dflt ((with_reducible refine' newList_K ?FQz ?NQz ?_ ?zQz); (case FQz => with_reducible assumption); (case NQz => with_reducible assumption); (case zQz => first | exact Nat.le_of_ble_eq_true rfl | size_fits)); intro D'e6 h'e6 F'e6 N'e6 l1e6; (try k_sweep))
  k_with "And" => ((with_reducible show Frag.In _ _ ∧ _); refine' And.intro ?kQz ?_; (case kQz => k_dflt (first | with_reducible assumption | (refine' Frag.In.keeps ?xQz (Fr.keep ?fQz); (case fQz => with_reducible assumption); (case xQz => with_reducible assumption)) | k_in)); (try dsimp only [List.nil_append, List.cons_append]))
  k_with "execs cons" => (k_here; (try k_gentoks); (with_reducible refine' wpAny_execs_cons ?_); (try dsimp only); (try k_fold))
  k_with "ite" => (k_closed; first | (with_reducible refine' ite_tt ?_) | (with_reducible refine' ite_ff ?_) | ((with_reducible refine' ite_neg ?hQz ?_); (case hQz => decide +kernel)) | ((with_reducible refine' ite_pos ?hQz ?_); (case hQz => decide +kernel)))
  k_with "spliced" => k_dflt ((first | (with_reducible refine' args_cons (env := envOf _ _ _ _ _) ?_ ?heQz) | (with_reducible refine' args_cons (env := envOfC _ _ _ _ _) ?_ ?heQz)); (case heQz => exact rfl))
  k_with "eval Call" => k_dflt ((first | (with_reducible refine' Call_ (env := envOf _ _ _ _ _) ?_ ?heQz) | (with_reducible refine' Call_ (env := envOfC _ _ _ _ _) ?_ ?heQz)); (case heQz => exact rfl))
  k_with "exec Assign" => k_dflt ((first | (with_reducible refine' wpAny_Assign_Name (env := envOf _ _ _ _ _) ?_ ?heQz) | (with_reducible refine' wpAny_Assign_Name (env := envOfC _ _ _ _ _) ?_ ?heQz)); (case heQz => exact rfl); (try k_fold))
  k_with "callWith ref" => (k_here; k_dflt first | ((with_reducible refine' callWith_K ?k1Qz ?k2Qz ?_ ?heQz ?hpQz); (case k1Qz => with_reducible assumption); (case k2Qz => k_is); (case heQz => exact rfl); (case hpQz => exact rfl); k_whole) | ((with_reducible refine' callWith_K0 ?k1Qz ?k2Qz ?_); (case k1Qz => (first | with_reducible assumption | (refine' Frag.In.keeps ?xQz (Fr.keep ?fQz); (case fQz => with_reducible assumption); (case xQz => with_reducible assumption)) | k_in)); (case k2Qz => k_is); k_whole))
  k_with "storeName" => (k_here; k_dflt first | ((with_reducible refine' stN ?FQz ?NQz ?_ ?aQz ?bQz); (case FQz => with_reducible assumption); (case NQz => with_reducible assumption); (case aQz => exact rfl); (case bQz => kernel_rfl!); k_whole; intro h'e14 F'e14 N'e14; (try k_sweep)) | (name_kind "local"; (with_reducible refine' storeC_L ?FQz ?NQz ?_ ?aQz ?bQz); (case FQz => with_reducible assumption); (case NQz => with_reducible assumption); (case aQz => exact rfl); (case bQz => kernel_rfl!); k_whole; intro h'e14 F'e14 N'e14; (try k_sweep)))
  k_with "mine room" => first | exact Nat.le_of_ble_eq_true rfl | ((try simp only [recursionLimit]); (try dsimp only [Around.deeper, Around.in1, Around.mark, rnd]); first | exact room_le (by with_reducible assumption) rfl | omega) | fail "mine"
  k_with "mine enter" => (refine wpAny_call ?_; k_dflt ((with_reducible refine' code_def ?k1Qz ?k2Qz ?k3Qz ?k4Qz ?k5Qz ?kAQz ?kFQz ?kKQz ?k6Qz ?k7Qz ?k8Qz ?k9Qz ?kBQz ?_ ?c2Qz ?c3Qz ?c4Qz ?c5Qz); (case kAQz => exact rfl); (case kFQz => assumption); (case kKQz => assumption); (case k1Qz => k_asm); (case k2Qz => k_asm); (case k3Qz => k_asm); (case k4Qz => k_asm); (case k5Qz => k_asm); (case k6Qz => k_is); (case k7Qz => k_is); (case k8Qz => ktr_room); (case k9Qz => exact BindsTo.of_eq rfl); (case c5Qz => decide); (case kBQz => exact locs rfl); (case c2Qz => exact rfl); (case c3Qz => exact rfl); (case c4Qz => exact rfl); k_whole; intro g'e16 L'e16 h'e16 FG'e16 F'e16 N'e16 B'e16 X'e16 T'e16; (try dsimp only); (try k_fold)))
  k_with "mine pick" => first | exact Pick.head | (refine' Pick.tail ?pkQz; (case pkQz => k_extra "mine pick")) | fail "mine"
  k_with "mine mem" => first | with_reducible assumption | exact mem_hd | (refine' mem_tl ?pmQz; (case pmQz => k_extra "mine mem")) | (refine' Sub.mem ?pgQz ?pmQz; (case pgQz => with_reducible assumption); (case pmQz => k_extra "mine mem")) | (refine' Grow.mem ?pgQz ?pmQz; (case pgQz => with_reducible assumption); (case pmQz => k_extra "mine mem")) | fail "mine"
  k_with "mine at" => first | (with_reducible exact at_hd) | ((with_reducible refine' at_tl ?pmQz); (case pmQz => k_extra "mine at")) | fail "mine"
  k_with "mine pj" => first | with_reducible assumption | exact pj_l (by with_reducible assumption) | exact pj_l (pj_r (by with_reducible assumption)) | exact pj_r (by with_reducible assumption) | exact pj_l (pj_2 (by with_reducible assumption)) | exact pj_2 (by with_reducible assumption) | exact pj_l (pj_2 (pj_r (by with_reducible assumption))) | exact pj_2 (pj_r (by with_reducible assumption)) | exact pj_l (pj_4 (by with_reducible assumption)) | exact pj_4 (by with_reducible assumption) | exact pj_l (pj_4 (pj_r (by with_reducible assumption))) | exact pj_4 (pj_r (by with_reducible assumption)) | exact pj_l (pj_4 (pj_2 (by with_reducible assumption))) | exact pj_4 (pj_2 (by with_reducible assumption)) | exact pj_l (pj_4 (pj_2 (pj_r (by with_reducible assumption)))) | exact pj_4 (pj_2 (pj_r (by with_reducible assumption))) | exact pj_l (pj_8 (by with_reducible assumption)) | exact pj_8 (by with_reducible assumption) | exact pj_l (pj_8 (pj_r (by with_reducible assumption))) | exact pj_8 (pj_r (by with_reducible assumption)) | exact pj_l (pj_8 (pj_2 (by with_reducible assumption))) | exact pj_8 (pj_2 (by with_reducible assumption)) | exact pj_l (pj_8 (pj_2 (pj_r (by with_reducible assumption)))) | exact pj_8 (pj_2 (pj_r (by with_reducible assumption))) | exact pj_l (pj_8 (pj_4 (by with_reducible assumption))) | exact pj_8 (pj_4 (by with_reducible assumption)) | exact pj_l (pj_8 (pj_4 (pj_r (by with_reducible assumption)))) | exact pj_8 (pj_4 (pj_r (by with_reducible assumption))) | exact pj_l (pj_8 (pj_4 (pj_2 (by with_reducible assumption)))) | exact pj_8 (pj_4 (pj_2 (by with_reducible assumption))) | exact pj_l (pj_8 (pj_4 (pj_2 (pj_r (by with_reducible assumption))))) | exact pj_8 (pj_4 (pj_2 (pj_r (by with_reducible assumption)))) | exact pj_l (pj_16 (by with_reducible assumption)) | exact pj_16 (by with_reducible assumption) | exact pj_l (pj_16 (pj_r (by with_reducible assumption))) | exact pj_16 (pj_r (by with_reducible assumption)) | exact pj_l (pj_16 (pj_2 (by with_reducible assumption))) | exact pj_16 (pj_2 (by with_reducible assumption)) | exact pj_l (pj_16 (pj_2 (pj_r (by with_reducible assumption)))) | exact pj_16 (pj_2 (pj_r (by with_reducible assumption))) | exact pj_l (pj_16 (pj_4 (by with_reducible assumption))) | exact pj_16 (pj_4 (by with_reducible assumption)) | exact pj_l (pj_16 (pj_4 (pj_r (by with_reducible assumption)))) | exact pj_16 (pj_4 (pj_r (by with_reducible assumption))) | exact pj_l (pj_16 (pj_4 (pj_2 (by with_reducible assumption)))) | exact pj_16 (pj_4 (pj_2 (by with_reducible assumption))) | exact pj_l (pj_16 (pj_4 (pj_2 (pj_r (by with_reducible assumption))))) | exact pj_16 (pj_4 (pj_2 (pj_r (by with_reducible assumption)))) | exact pj_l (pj_16 (pj_8 (by with_reducible assumption))) | exact pj_16 (pj_8 (by with_reducible assumption)) | exact pj_l (pj_16 (pj_8 (pj_r (by with_reducible assumption)))) | exact pj_16 (pj_8 (pj_r (by with_reducible assumption))) | exact pj_l (pj_16 (pj_8 (pj_2 (by with_reducible assumption)))) | exact pj_16 (pj_8 (pj_2 (by with_reducible assumption))) | exact pj_l (pj_16 (pj_8 (pj_2 (pj_r (by with_reducible assumption))))) | exact pj_16 (pj_8 (pj_2 (pj_r (by with_reducible assumption)))) | exact pj_l (pj_16 (pj_8 (pj_4 (by with_reducible assumption)))) | exact pj_16 (pj_8 (pj_4 (by with_reducible assumption))) | exact pj_l (pj_16 (pj_8 (pj_4 (pj_r (by with_reducible assumption))))) | exact pj_16 (pj_8 (pj_4 (pj_r (by with_reducible assumption)))) | exact pj_l (pj_16 (pj_8 (pj_4 (pj_2 (by with_reducible assumption))))) | exact pj_16 (pj_8 (pj_4 (pj_2 (by with_reducible assumption)))) | exact pj_l (pj_16 (pj_8 (pj_4 (pj_2 (pj_r (by with_reducible assumption)))))) | exact pj_16 (pj_8 (pj_4 (pj_2 (pj_r (by with_reducible assumption))))) | fail "mine"
  k_with "mine new" => first | ((with_reducible refine' ne_new ?hQz ?mQz); (case hQz => with_reducible assumption); (case mQz => k_extra "mine at")) | ((with_reducible refine' ne_new' ?hQz ?mQz); (case hQz => with_reducible assumption); (case mQz => k_extra "mine at")) | ((with_reducible refine' Nat.ne_of_lt ?hQz); (case hQz => k_extra "mine pj")) | ((with_reducible refine' Nat.ne_of_gt ?hQz); (case hQz => k_extra "mine pj")) | fail "mine"
  k_with "mine ne" => first | assumption | (refine Ne.symm ?_; assumption) | k_extra "mine new" | (refine neN ?_; (try dsimp only); first | k_extra "mine new" | omega) | fail "mine"
  k_with "mine off" => first | with_reducible assumption | exact Off.nil | (refine Off.tup ?_; k_extra "mine off") | (refine Off.ne ?_ ?_; (k_extra "mine ne"); (k_extra "mine off")) | fail "mine"
  k_with "mine sub" => first | with_reducible assumption | exact Sub.refl | (refine Sub.tl ?_; k_extra "mine sub") | (refine' Sub.gr ?pgQz ?pkQz; (case pgQz => with_reducible assumption); (case pkQz => k_extra "mine sub")) | fail "mine"
  exact True.intro
--#END
--#MACROS
local macro_rules | `(tactic| k_all) => `(tactic| assumption)
--#END
structure TakeG where
  (src : Addr) (o : Obj) (rest : Led) (top : Int) (tt : Tok)
noncomputable def takePre (g : TakeG) (news : Led) (vs : List Value) : Prop := news = (g.src, g.o) :: g.rest ∧ vs = [.ref g.src, .int g.top g.tt] ∧ SrcOk g.o ∧ 0 < g.top ∧ g.top ≤ 8 ∧ Off g.src g.rest
noncomputable def takePost (g : TakeG) (news : Led) (v : Value) : Prop := ∃ d td o, v = .int d td ∧ 0 ≤ d ∧ d < g.top ∧ SrcOk o ∧ news = (g.src, o) :: g.rest
theorem ln2 : True := by
  k_with "binaryOp Mult int int" => (refine mul_int ?_ (mulOk31 (fm _ (by decide))))
  exact True.intro
set_option maxRecDepth 100000 in
set_option maxHeartbeats 8000000 in
theorem take_con (w : World) : Con w 220 600 8000 takePre takePost := by
  unfold Con
  k_fill
  rintro ⟨src, o, rest, top, tt⟩ mean mg mb env outer gd A₀ base h₀ L m news s vs Q E B F X N T hf hk ⟨rfl, rfl, ho, ht, ht8, hoff⟩ hret
  dsimp only at *
  have hne := hoff.ok N ho.cls
  obtain ⟨x, y, t1, t2, ep, rfl, hx, hy, hy2⟩ := ho.ex
  k_extra "mine enter"
  k_steps
  all_goals (refine' hret _ _ _ _ ?e1 ?e2 ?_; (case e1 => k_asm); (case e2 => k_asm))
  all_goals (refine ⟨_, _, _, rfl, (fm _ ht).1, (fm _ ht).2, .mk' ⟨_, _, _, _, _, rfl, ?_, ?_, ?_⟩, rfl⟩)
  · exact Int.fdiv_nonneg hx (Int.le_of_lt ht)
  · exact hy
  · exact hy2
  · exact hx
  · exact (fm _ (by decide)).1
  · exact (fm _ (by decide)).2
theorem take_use {w : World} {src : Addr} {o : Obj} {rest : Led} {top : Int} {tt : Tok}
    {mean : ExcName → Option Value} {mg mb : Str → Option Value} {A : Around} {env : Env} {outer : List Env} {A₀ : Around} {base h₀ : Heap} {L : Addr} {m : Str → Option Value} {news : Led} {s : Shared} {Q E : Value → Shared → Prop}
    (B : Below A₀ base outer h₀) (F : Fr h₀ L s.heap m) (X : (hd.heap_39 w.params).In h₀) (N : News h₀ L s.heap news) (T : Top hd.view_39 (looseW hd.view_39 [Str.ofString "ChanError"]) mean mg mb h₀)
    (a3 : A.frames = some (env :: outer)) (hf : env.frame = some L) (hk : env.scope.kind = .function) (a1 : A.handled = none) (a2 : A.depth ≤ 600) (a4 : A.units ≤ 8000)
    (hs : Pick (src, o) news rest) (ho : SrcOk o) (ht : 0 < top ∧ top ≤ 8) (hoff : Off src rest)
    (k : ∀ d td o' h' tk', 0 ≤ d → d < top → SrcOk o' → Fr h₀ L h' m → News h₀ L h' ((src, o') :: rest) → Q (.int d td) { s with heap := h', toks := tk' }) :
    wpAny (model PySem.Challenge.rw_on0017_01.row.prog w) A (call (.ref 220) [.ref src, .int top tt]) Q E s :=
  (take_con w).use ⟨src, o, rest, top, tt⟩ B F X N T hf hk a1 a2 a3 a4 hs.sub ⟨rfl, rfl, ho, ht.1, ht.2, hoff⟩ (fun r news' h' tk' F' N' hp => by
    obtain ⟨d, td, o', rfl, h1, h2, h3, rfl⟩ := hp
    exact k _ _ _ _ _ h1 h2 h3 F' N')
--#MACROS
theorem ln3 : True := by
  k_with "call ref" => (k_here; (with_reducible show wpAny _ _ (call (Value.ref 220) [Value.ref _, Value.int _ _]) _ _ _); k_dflt ((with_reducible refine' take_use ?k1Qz ?k2Qz ?k3Qz ?k4Qz ?k5Qz ?a3Qz ?hfQz ?hkQz ?a1Qz ?a2Qz ?a4Qz ?hsQz ?hoQz ?htQz ?offQz ?_); (case k1Qz => k_asm); (case k2Qz => k_asm); (case k3Qz => k_asm); (case k4Qz => k_asm); (case k5Qz => k_asm); (case a3Qz => exact rfl); (case hfQz => exact rfl); (case hkQz => exact rfl); (case a1Qz => exact rfl); (case a2Qz => k_extra "mine room"); (case a4Qz => k_extra "mine room"); (case hoQz => assumption); (case hsQz => k_extra "mine pick"); (case htQz => exact ⟨by decide, by decide⟩); (case offQz => k_extra "mine off")); intro d'e26 td'e26 o'e26 h'e26 tk'e26 hd0e26 hd1e26 ho'e26 F'e26 N'e26; (try dsimp only); (try k_sweep); (try k_fold))
  exact True.intro
--#END

end
theorem ln4 : True := by
  k_with_none
  k_with "eval Name" => (k_here; (with_reducible show wpAny _ _ (eval (PySem.Expr.Name _ _) (envOf _ _ _ _ _)) _ _ _); name_kind "globalImplicit"; k_dflt ((with_reducible refine' name_K ?k0Qz ?k1Qz ?k2Qz ?k3Qz ?_ ?aQz ?bQz ?cQz); (case k0Qz => with_reducible assumption); (case k1Qz => with_reducible assumption); (case k2Qz => k_asm); (case k3Qz => k_is); (case aQz => exact rfl); (case bQz => kernel_rfl!); (case cQz => decide +kernel); k_whole))
  k_with "eval Name" => (k_here; (with_reducible show wpAny _ _ (eval (PySem.Expr.Name _ _) (envOf _ _ _ _ _)) _ _ _); name_kind "globalImplicit"; name_is_builtin; k_dflt ((with_reducible refine' name_B ?k0Qz ?k1Qz ?k2Qz ?k3Qz ?k4Qz ?k5Qz ?_ ?aQz ?bQz ?cQz); (case k0Qz => with_reducible assumption); (case k1Qz => with_reducible assumption); (case k2Qz => k_asm); (case k3Qz => k_is); (case k4Qz => boot_fast); (case k5Qz => decide +kernel); (case aQz => exact rfl); (case bQz => kernel_rfl!); (case cQz => decide +kernel); k_whole))
  k_with "eval Name" => (k_here; (with_reducible show wpAny _ _ (eval (PySem.Expr.Name _ _) (envOf _ _ _ _ _)) _ _ _); name_kind "local"; k_dflt ((with_reducible refine' ld ?k1Qz ?k2Qz ?_ ?aQz ?bQz ?cQz); (case k1Qz => with_reducible assumption); (case aQz => exact rfl); (case bQz => kernel_rfl!); (case cQz => decide +kernel); (case k2Qz => exact rfl); k_whole))
  k_with "eval Name" => (k_here; (with_reducible show wpAny _ _ (eval (PySem.Expr.Name _ _) (envOfC _ _ _ _ _)) _ _ _); k_dflt first | (name_kind "local"; (with_reducible refine' nameC_L ?FQz ?vQz ?_ ?aQz ?bQz ?cQz); (case FQz => with_reducible assumption); (case aQz => exact rfl); (case bQz => kernel_rfl!); (case cQz => decide +kernel); (case vQz => first | exact rfl | assumption); k_whole) | (name_kind "cell"; (with_reducible refine' nameC_C ?NQz ?kQz ?mQz ?dQz ?_ ?aQz ?bQz ?cQz); (case aQz => exact rfl); (case bQz => kernel_rfl!); (case cQz => decide +kernel); (case NQz => with_reducible assumption); (case kQz => exact rfl); (case mQz => k_mem); (case dQz => k_asm); k_whole) | (name_kind "globalImplicit"; name_is_builtin; (with_reducible refine' nameC_B ?FQz ?XQz ?TQz ?eQz ?vQz ?nQz ?_ ?aQz ?bQz ?cQz); (case FQz => with_reducible assumption); (case XQz => with_reducible assumption); (case TQz => k_asm); (case aQz => exact rfl); (case bQz => kernel_rfl!); (case cQz => decide +kernel); (case eQz => k_is); (case vQz => boot_fast); (case nQz => decide +kernel); k_whole) | (name_kind "globalImplicit"; (with_reducible refine' nameC_K ?FQz ?XQz ?TQz ?eQz ?_ ?aQz ?bQz ?cQz); (case FQz => with_reducible assumption); (case XQz => with_reducible assumption); (case TQz => k_asm); (case aQz => exact rfl); (case bQz => kernel_rfl!); (case cQz => decide +kernel); (case eQz => k_is); k_whole))
  k_with "eval Name" => (k_here; (with_reducible show wpAny _ _ (eval (PySem.Expr.Name _ _) (compEnvC _ _ _ _)) _ _ _); k_dflt first | (name_kind "local"; (with_reducible refine' LCgL.ld_own ?NQz ?mQz ?CQz ?xQz ?_ ?aQz ?bQz ?cQz); (case NQz => with_reducible assumption); (case mQz => k_mem); (case CQz => with_reducible assumption); (case xQz => assumption); (case aQz => exact rfl); (case bQz => kernel_rfl!); (case cQz => decide +kernel); k_whole) | (name_kind "globalImplicit"; name_is_builtin; (with_reducible refine' LCgL.ld_built ?FQz ?XQz ?TQz ?eQz ?vQz ?nQz ?_ ?gQz ?hQz ?aQz ?bQz ?cQz); (case FQz => with_reducible assumption); (case XQz => with_reducible assumption); (case TQz => with_reducible assumption); (case gQz => exact rfl); (case hQz => exact rfl); (case aQz => exact rfl); (case bQz => kernel_rfl!); (case cQz => decide +kernel); (case eQz => k_is); (case vQz => boot_fast); (case nQz => decide +kernel); k_whole) | (name_kind "globalImplicit"; (with_reducible refine' LCgL.ld_global ?FQz ?XQz ?TQz ?eQz ?_ ?gQz ?aQz ?bQz ?cQz); (case FQz => with_reducible assumption); (case XQz => with_reducible assumption); (case TQz => with_reducible assumption); (case gQz => exact rfl); (case aQz => exact rfl); (case bQz => kernel_rfl!); (case cQz => decide +kernel); (case eQz => k_is); k_whole) | (name_kind "free"; (with_reducible refine' lcf_free ?NQz ?kQz ?mQz ?dQz ?_ ?aQz ?bQz ?cQz ?eQz); (case aQz => exact rfl); (case bQz => kernel_rfl!); (case cQz => decide +kernel); (case eQz => decide +kernel); (case NQz => with_reducible assumption); (case kQz => exact rfl); (case mQz => k_mem); (case dQz => k_asm); k_whole))
  k_with "newTuple" => (k_here; k_dflt ((with_reducible refine' kup_newTuple ?FQz ?NQz ?_ ?zQz); (case FQz => with_reducible assumption); (case NQz => with_reducible assumption); (case zQz => first | exact Nat.le_of_ble_eq_true rfl | kmk_size)); intro D'e5 h'e5 F'e5 N'e5 l1e5; (try k_sweep))
  k_with "newList" => (k_here; k_dflt ((with_reducible refine' newList_K ?FQz ?NQz ?_ ?zQz); (case FQz => with_reducible assumption); (case NQz => with_reducible assumption); (case zQz => first | exact Nat.le_of_ble_eq_true rfl | size_fits)); intro D'e6 h'e6 F'e6 N'e6 l1e6; (try k_sweep))
  k_with "And" => ((with_reducible show Frag.In _ _ ∧ _); refine' And.intro ?kQz ?_; (case kQz => k_dflt (first | with_reducible assumption | (refine' Frag.In.keeps ?xQz (Fr.keep ?fQz); (case fQz => with_reducible assumption); (case xQz => with_reducible assumption)) | k_in)); (try dsimp only [List.nil_append, List.cons_append]))
  k_with "execs cons" => (k_here; (try k_gentoks); (with_reducible refine' wpAny_execs_cons ?_); (try dsimp only); (try k_fold))
  k_with "ite" => (k_closed; first | (with_reducible refine' ite_tt ?_) | (with_reducible refine' ite_ff ?_) | ((with_reducible refine' ite_neg ?hQz ?_); (case hQz => decide +kernel)) | ((with_reducible refine' ite_pos ?hQz ?_); (case hQz => decide +kernel)))
  k_with "spliced" => k_dflt ((first | (with_reducible refine' args_cons (env := envOf _ _ _ _ _) ?_ ?heQz) | (with_reducible refine' args_cons (env := envOfC _ _ _ _ _) ?_ ?heQz)); (case heQz => exact rfl))
  k_with "eval Call" => k_dflt ((first | (with_reducible refine' Call_ (env := envOf _ _ _ _ _) ?_ ?heQz) | (with_reducible refine' Call_ (env := envOfC _ _ _ _ _) ?_ ?heQz)); (case heQz => exact rfl))
  k_with "exec Assign" => k_dflt ((first | (with_reducible refine' wpAny_Assign_Name (env := envOf _ _ _ _ _) ?_ ?heQz) | (with_reducible refine' wpAny_Assign_Name (env := envOfC _ _ _ _ _) ?_ ?heQz)); (case heQz => exact rfl); (try k_fold))
  k_with "callWith ref" => (k_here; k_dflt first | ((with_reducible refine' callWith_K ?k1Qz ?k2Qz ?_ ?heQz ?hpQz); (case k1Qz => with_reducible assumption); (case k2Qz => k_is); (case heQz => exact rfl); (case hpQz => exact rfl); k_whole) | ((with_reducible refine' callWith_K0 ?k1Qz ?k2Qz ?_); (case k1Qz => (first | with_reducible assumption | (refine' Frag.In.keeps ?xQz (Fr.keep ?fQz); (case fQz => with_reducible assumption); (case xQz => with_reducible assumption)) | k_in)); (case k2Qz => k_is); k_whole))
  k_with "storeName" => (k_here; k_dflt first | ((with_reducible refine' stN ?FQz ?NQz ?_ ?aQz ?bQz); (case FQz => with_reducible assumption); (case NQz => with_reducible assumption); (case aQz => exact rfl); (case bQz => kernel_rfl!); k_whole; intro h'e14 F'e14 N'e14; (try k_sweep)) | (name_kind "local"; (with_reducible refine' storeC_L ?FQz ?NQz ?_ ?aQz ?bQz); (case FQz => with_reducible assumption); (case NQz => with_reducible assumption); (case aQz => exact rfl); (case bQz => kernel_rfl!); k_whole; intro h'e14 F'e14 N'e14; (try k_sweep)))
  k_with "mine room" => first | exact Nat.le_of_ble_eq_true rfl | ((try simp only [recursionLimit]); (try dsimp only [Around.deeper, Around.in1, Around.mark, rnd]); first | exact room_le (by with_reducible assumption) rfl | omega) | fail "mine"
  k_with "mine enter" => (refine wpAny_call ?_; k_dflt ((with_reducible refine' code_def ?k1Qz ?k2Qz ?k3Qz ?k4Qz ?k5Qz ?kAQz ?kFQz ?kKQz ?k6Qz ?k7Qz ?k8Qz ?k9Qz ?kBQz ?_ ?c2Qz ?c3Qz ?c4Qz ?c5Qz); (case kAQz => exact rfl); (case kFQz => assumption); (case kKQz => assumption); (case k1Qz => k_asm); (case k2Qz => k_asm); (case k3Qz => k_asm); (case k4Qz => k_asm); (case k5Qz => k_asm); (case k6Qz => k_is); (case k7Qz => k_is); (case k8Qz => ktr_room); (case k9Qz => exact BindsTo.of_eq rfl); (case c5Qz => decide); (case kBQz => exact locs rfl); (case c2Qz => exact rfl); (case c3Qz => exact rfl); (case c4Qz => exact rfl); k_whole; intro g'e16 L'e16 h'e16 FG'e16 F'e16 N'e16 B'e16 X'e16 T'e16; (try dsimp only); (try k_fold)))
  k_with "mine pick" => first | exact Pick.head | (refine' Pick.tail ?pkQz; (case pkQz => k_extra "mine pick")) | fail "mine"
  k_with "mine mem" => first | with_reducible assumption | exact mem_hd | (refine' mem_tl ?pmQz; (case pmQz => k_extra "mine mem")) | (refine' Sub.mem ?pgQz ?pmQz; (case pgQz => with_reducible assumption); (case pmQz => k_extra "mine mem")) | (refine' Grow.mem ?pgQz ?pmQz; (case pgQz => with_reducible assumption); (case pmQz => k_extra "mine mem")) | fail "mine"
  k_with "mine at" => first | (with_reducible exact at_hd) | ((with_reducible refine' at_tl ?pmQz); (case pmQz => k_extra "mine at")) | fail "mine"
  k_with "mine pj" => first | with_reducible assumption | exact pj_l (by with_reducible assumption) | exact pj_l (pj_r (by with_reducible assumption)) | exact pj_r (by with_reducible assumption) | exact pj_l (pj_2 (by with_reducible assumption)) | exact pj_2 (by with_reducible assumption) | exact pj_l (pj_2 (pj_r (by with_reducible assumption))) | exact pj_2 (pj_r (by with_reducible assumption)) | exact pj_l (pj_4 (by with_reducible assumption)) | exact pj_4 (by with_reducible assumption) | exact pj_l (pj_4 (pj_r (by with_reducible assumption))) | exact pj_4 (pj_r (by with_reducible assumption)) | exact pj_l (pj_4 (pj_2 (by with_reducible assumption))) | exact pj_4 (pj_2 (by with_reducible assumption)) | exact pj_l (pj_4 (pj_2 (pj_r (by with_reducible assumption)))) | exact pj_4 (pj_2 (pj_r (by with_reducible assumption))) | exact pj_l (pj_8 (by with_reducible assumption)) | exact pj_8 (by with_reducible assumption) | exact pj_l (pj_8 (pj_r (by with_reducible assumption))) | exact pj_8 (pj_r (by with_reducible assumption)) | exact pj_l (pj_8 (pj_2 (by with_reducible assumption))) | exact pj_8 (pj_2 (by with_reducible assumption)) | exact pj_l (pj_8 (pj_2 (pj_r (by with_reducible assumption)))) | exact pj_8 (pj_2 (pj_r (by with_reducible assumption))) | exact pj_l (pj_8 (pj_4 (by with_reducible assumption))) | exact pj_8 (pj_4 (by with_reducible assumption)) | exact pj_l (pj_8 (pj_4 (pj_r (by with_reducible assumption)))) | exact pj_8 (pj_4 (pj_r (by with_reducible assumption))) | exact pj_l (pj_8 (pj_4 (pj_2 (by with_reducible assumption)))) | exact pj_8 (pj_4 (pj_2 (by with_reducible assumption))) | exact pj_l (pj_8 (pj_4 (pj_2 (pj_r (by with_reducible assumption))))) | exact pj_8 (pj_4 (pj_2 (pj_r (by with_reducible assumption)))) | exact pj_l (pj_16 (by with_reducible assumption)) | exact pj_16 (by with_reducible assumption) | exact pj_l (pj_16 (pj_r (by with_reducible assumption))) | exact pj_16 (pj_r (by with_reducible assumption)) | exact pj_l (pj_16 (pj_2 (by with_reducible assumption))) | exact pj_16 (pj_2 (by with_reducible assumption)) | exact pj_l (pj_16 (pj_2 (pj_r (by with_reducible assumption)))) | exact pj_16 (pj_2 (pj_r (by with_reducible assumption))) | exact pj_l (pj_16 (pj_4 (by with_reducible assumption))) | exact pj_16 (pj_4 (by with_reducible assumption)) | exact pj_l (pj_16 (pj_4 (pj_r (by with_reducible assumption)))) | exact pj_16 (pj_4 (pj_r (by with_reducible assumption))) | exact pj_l (pj_16 (pj_4 (pj_2 (by with_reducible assumption)))) | exact pj_16 (pj_4 (pj_2 (by with_reducible assumption))) | exact pj_l (pj_16 (pj_4 (pj_2 (pj_r (by with_reducible assumption))))) | exact pj_16 (pj_4 (pj_2 (pj_r (by with_reducible assumption)))) | exact pj_l (pj_16 (pj_8 (by with_reducible assumption))) | exact pj_16 (pj_8 (by with_reducible assumption)) | exact pj_l (pj_16 (pj_8 (pj_r (by with_reducible assumption)))) | exact pj_16 (pj_8 (pj_r (by with_reducible assumption))) | exact pj_l (pj_16 (pj_8 (pj_2 (by with_reducible assumption)))) | exact pj_16 (pj_8 (pj_2 (by with_reducible assumption))) | exact pj_l (pj_16 (pj_8 (pj_2 (pj_r (by with_reducible assumption))))) | exact pj_16 (pj_8 (pj_2 (pj_r (by with_reducible assumption)))) | exact pj_l (pj_16 (pj_8 (pj_4 (by with_reducible assumption)))) | exact pj_16 (pj_8 (pj_4 (by with_reducible assumption))) | exact pj_l (pj_16 (pj_8 (pj_4 (pj_r (by with_reducible assumption))))) | exact pj_16 (pj_8 (pj_4 (pj_r (by with_reducible assumption)))) | exact pj_l (pj_16 (pj_8 (pj_4 (pj_2 (by with_reducible assumption))))) | exact pj_16 (pj_8 (pj_4 (pj_2 (by with_reducible assumption)))) | exact pj_l (pj_16 (pj_8 (pj_4 (pj_2 (pj_r (by with_reducible assumption)))))) | exact pj_16 (pj_8 (pj_4 (pj_2 (pj_r (by with_reducible assumption))))) | fail "mine"
  k_with "mine new" => first | ((with_reducible refine' ne_new ?hQz ?mQz); (case hQz => with_reducible assumption); (case mQz => k_extra "mine at")) | ((with_reducible refine' ne_new' ?hQz ?mQz); (case hQz => with_reducible assumption); (case mQz => k_extra "mine at")) | ((with_reducible refine' Nat.ne_of_lt ?hQz); (case hQz => k_extra "mine pj")) | ((with_reducible refine' Nat.ne_of_gt ?hQz); (case hQz => k_extra "mine pj")) | fail "mine"
  k_with "mine ne" => first | assumption | (refine Ne.symm ?_; assumption) | k_extra "mine new" | (refine neN ?_; (try dsimp only); first | k_extra "mine new" | omega) | fail "mine"
  k_with "mine off" => first | with_reducible assumption | exact Off.nil | (refine Off.tup ?_; k_extra "mine off") | (refine Off.ne ?_ ?_; (k_extra "mine ne"); (k_extra "mine off")) | fail "mine"
  k_with "mine sub" => first | with_reducible assumption | exact Sub.refl | (refine Sub.tl ?_; k_extra "mine sub") | (refine' Sub.gr ?pgQz ?pkQz; (case pgQz => with_reducible assumption); (case pkQz => k_extra "mine sub")) | fail "mine"
  k_with "call ref" => (k_here; (with_reducible show wpAny _ _ (call (Value.ref 220) [Value.ref _, Value.int _ _]) _ _ _); k_dflt ((with_reducible refine' take_use ?k1Qz ?k2Qz ?k3Qz ?k4Qz ?k5Qz ?a3Qz ?hfQz ?hkQz ?a1Qz ?a2Qz ?a4Qz ?hsQz ?hoQz ?htQz ?offQz ?_); (case k1Qz => k_asm); (case k2Qz => k_asm); (case k3Qz => k_asm); (case k4Qz => k_asm); (case k5Qz => k_asm); (case a3Qz => exact rfl); (case hfQz => exact rfl); (case hkQz => exact rfl); (case a1Qz => exact rfl); (case a2Qz => k_extra "mine room"); (case a4Qz => k_extra "mine room"); (case hoQz => assumption); (case hsQz => k_extra "mine pick"); (case htQz => exact ⟨by decide, by decide⟩); (case offQz => k_extra "mine off")); intro d'e34 td'e34 o'e34 h'e34 tk'e34 hd0e34 hd1e34 ho'e34 F'e34 N'e34; (try dsimp only); (try k_sweep); (try k_fold))
  exact True.intro
--PART A06Types
section
local macro_rules | `(tactic| k_all) => `(tactic| assumption)
noncomputable def TypesAre (fr : Led) (vs : List Value) : Prop := vs.length = 8 ∧ ∀ i, i < 8 → ∃ v, vs[i]? = some v ∧ TyIn fr v (tyOf i)
theorem types_are {fr : Led} {a b c : Addr} {t u x y : Tok} (h1 : (a, tupO [.str (Str.ofString "ptr") t, .ref 237]) ∈ fr) (h2 : (b, tupO [.str (Str.ofString "slice") u, .ref 237]) ∈ fr) (h3 : (c, tupO [.str (Str.ofString "array") x, .int 2 y, .ref 237]) ∈ fr) :
    TypesAre fr [.ref 228, .ref 228, .ref 230, .ref 237, .ref 238, .ref a, .ref b, .ref c] := by
  refine ⟨rfl, fun i hi => ?_⟩
  obtain rfl | rfl | rfl | rfl | rfl | rfl | rfl | rfl : i = 0 ∨ i = 1 ∨ i = 2 ∨ i = 3 ∨ i = 4 ∨ i = 5 ∨ i = 6 ∨ i = 7 := by omega
  · exact ⟨_, rfl, .i228⟩
  · exact ⟨_, rfl, .i228⟩
  · exact ⟨_, rfl, .a230⟩
  · exact ⟨_, rfl, .pair⟩
  · exact ⟨_, rfl, .named⟩
  · exact ⟨_, rfl, .ptr h1⟩
  · exact ⟨_, rfl, .slice h2⟩
  · exact ⟨_, rfl, .arr2 h3⟩
noncomputable def tyPre (fr : Led) (news : Led) (vs : List Value) : Prop := news = fr ∧ vs = []
noncomputable def tyPost (fr : Led) (news : Led) (v : Value) : Prop := ∃ l vs n fr', v = .ref l ∧ news = (l, listOf vs.toArray n) :: fr' ∧ Grow fr fr' ∧ (∀ p ∈ fr, p.1 < l) ∧ TypesAre fr' vs
set_option maxRecDepth 100000 in
set_option maxHeartbeats 8000000 in
theorem types_con (w : World) : Con w 245 600 8000 tyPre tyPost := by
  unfold Con
  k_fill
  rintro fr mean mg mb env outer gd A₀ base h₀ L m news s vs Q E B F X N T hf hk ⟨rfl, rfl⟩ hret
  try dsimp only at *
  k_extra "mine enter"
  k_steps
  (rename News _ _ _ _ => kN)
  (rename Fr _ _ _ _ => kF)
  refine hret _ _ _ _ kF kN ⟨_, _, _, _, rfl, rfl, Grow.refl.tup.tup.tup, ?_, types_are (.tail _ (.tail _ (.head _))) (.tail _ (.head _)) (.head _)⟩
  refine' lt_sub ?h ?s
  case h => assumption
  case s => exact fun _ m => .tail _ (.tail _ (.tail _ m))
theorem TyIn.all {a b : Led} {vs : List Value} (s : SubT a b) (h : TypesAre a vs) : TypesAre b vs := ⟨h.1, fun i hi => let ⟨v, e, t⟩ := h.2 i hi; ⟨v, e, t.mono s⟩⟩
theorem types_use {w : World} {src : Addr} {o : Obj} {fr : Led}
    {mean : ExcName → Option Value} {mg mb : Str → Option Value} {A : Around} {env : Env} {outer : List Env} {A₀ : Around} {base h₀ : Heap} {L : Addr} {m : Str → Option Value} {news : Led} {s : Shared} {Q E : Value → Shared → Prop}
    (B : Below A₀ base outer h₀) (F : Fr h₀ L s.heap m) (X : (hd.heap_39 w.params).In h₀) (N : News h₀ L s.heap news) (T : Top hd.view_39 (looseW hd.view_39 [Str.ofString "ChanError"]) mean mg mb h₀)
    (a3 : A.frames = some (env :: outer)) (hf : env.frame = some L) (hk : env.scope.kind = .function) (a1 : A.handled = none) (a2 : A.depth ≤ 600) (a4 : A.units ≤ 8000)
    (hs : Pick (src, o) news fr) (ho : SrcOk o) (hoff : Off src fr)
    (k : ∀ l vs n fr' h' tk', Grow fr fr' → Off src fr' → @Ne Nat l src → TypesAre fr' vs → Fr h₀ L h' m → News h₀ L h' ((src, o) :: (l, listOf vs.toArray n) :: fr') → Q (.ref l) { s with heap := h', toks := tk' }) :
    wpAny (model PySem.Challenge.rw_on0017_01.row.prog w) A (call (.ref 245) []) Q E s :=
  (types_con w).use ((src, o) :: fr) B F X N T hf hk a1 a2 a3 a4 hs.sub ⟨rfl, rfl⟩ (fun r news' h' tk' F' N' hp => by
    obtain ⟨l, vs, n, fr', rfl, rfl, g, hl, hT⟩ := hp
    have hne : @Ne Nat l src := fun e => absurd (hl _ (.head _)) (by rw [e]; exact Nat.lt_irrefl _)
    obtain ⟨fr₁, g₁, st, sb⟩ := g.keep ho.cls hoff (fun p m => N p (hs.sub p m)) (fun p m => N' p (.tail _ m))
    refine k l vs n fr₁ _ _ g₁ (hoff.grow g₁) hne (TyIn.all st hT) F' fun p m => N' p ?_
    rcases List.mem_cons.mp m with rfl | m
    · exact .tail _ (sb _ (.head _))
    · rcases List.mem_cons.mp m with rfl | m
      · exact .head _
      · exact .tail _ (sb _ (.tail _ m)))
theorem types_item {prog : Program} {w : World} {A : Around} {s : Shared} {E : Value → Shared → Prop} {h₀ : Heap} {L : Addr} {value slice : Expr} {l : Addr} {vs : List Value} {n : Nat} {k : Int} {u : Tok} {news fr : Led} {Q : Value → Shared → Prop} (N : News h₀ L s.heap news) (hl : (l, listOf vs.toArray n) ∈ news) (hT : TypesAre fr vs)
    (h0 : 0 ≤ k) (h8 : k < 8) (h : ∀ v, TyIn fr v (tyOf k.toNat) → Q v s)
    (hs : subscripted slice false (.ref l) (.int k u) = operate [.ref l, .int k u] (getItem (.ref l) (.int k u)) := by with_unfolding_all rfl) :
    wpAny (model prog w) A (subscriptTail value slice (.ref l) (.int k u)) Q E s := by
  obtain ⟨v, e, t⟩ := hT.2 k.toNat (by omega)
  exact tail_any (N.isList hl).typeIs slot_list_getitem.lookup (wpAny_getItem_list (N.isList hl) h0 (by omega) (by simpa using e) (h v t)) hs
--#MACROS
theorem ln5 : True := by
  k_with "call ref" => (k_here; (with_reducible show wpAny _ _ (call (Value.ref 245) _) _ _ _); (k_dflt (show wpAny _ _ (call (Value.ref 245) []) _ _ _)); k_dflt ((first | with_reducible refine' types_use ?k1Qz ?k2Qz ?k3Qz ?k4Qz ?k5Qz ?a3Qz ?hfQz ?hkQz ?a1Qz ?a2Qz ?a4Qz ?hsQz ?hoQz ?offQz ?_ | refine' types_use ?k1Qz ?k2Qz ?k3Qz ?k4Qz ?k5Qz ?a3Qz ?hfQz ?hkQz ?a1Qz ?a2Qz ?a4Qz ?hsQz ?hoQz ?offQz ?_); (case k1Qz => k_asm); (case k2Qz => k_asm); (case k3Qz => k_asm); (case k4Qz => k_asm); (case k5Qz => k_asm); (case a3Qz => exact rfl); (case hfQz => first | exact rfl | assumption); (case hkQz => first | exact rfl | assumption); (case a1Qz => exact rfl); (case a2Qz => k_extra "mine room"); (case a4Qz => k_extra "mine room"); (case hoQz => assumption); (case hsQz => k_extra "mine pick"); (case offQz => k_extra "mine off")); intro l'e35 vs'e35 n'e35 fr'e35 h'e35 tk'e35 hg'e35 hoff'e35 hne'e35 hT'e35 F'e35 N'e35; (try dsimp only); (try k_sweep); (try k_fold))
  k_with "subscriptTail" => (k_here; (with_reducible show wpAny _ _ (subscriptTail _ _ (Value.ref _) (Value.int _ _)) _ _ _); (with_reducible rename TypesAre _ _ => hT9e36); k_dflt ((first | with_reducible refine' types_item ?k1Qz ?k2Qz hT9e36 ?k3Qz ?k4Qz ?_ ?k6Qz | refine' types_item ?k1Qz ?k2Qz hT9e36 ?k3Qz ?k4Qz ?_ ?k6Qz); (case k1Qz => k_asm); (case k2Qz => k_mem); (case k3Qz => first | assumption | decide); (case k4Qz => first | assumption | decide); (case k6Qz => with_unfolding_all rfl)); intro v'e36 hv'e36; (try dsimp only); (try k_fold))
  k_with "subscriptTail Name Constant ref int" => (k_here; (with_reducible show wpAny _ _ (subscriptTail _ _ (Value.ref _) (Value.int _ _)) _ _ _); (with_reducible rename TypesAre _ _ => hT9e37); k_dflt ((first | with_reducible refine' types_item ?k1Qz ?k2Qz hT9e37 ?k3Qz ?k4Qz ?_ ?k6Qz | refine' types_item ?k1Qz ?k2Qz hT9e37 ?k3Qz ?k4Qz ?_ ?k6Qz); (case k1Qz => k_asm); (case k2Qz => k_mem); (case k3Qz => first | assumption | decide); (case k4Qz => first | assumption | decide); (case k6Qz => with_unfolding_all rfl)); intro v'e37 hv'e37; (try dsimp only); (try k_fold))
  exact True.intro
--#END

end
--PART A07Local
section
local macro_rules | `(tactic| k_all) => `(tactic| assumption)
noncomputable def locPre (g : Addr × Obj × Led × Int × Tok) (news : Led) (vs : List Value) : Prop := news = (g.1, g.2.1) :: g.2.2.1 ∧ vs = [.int g.2.2.2.1 g.2.2.2.2] ∧ SrcOk g.2.1 ∧ Off g.1 g.2.2.1 ∧ 0 ≤ g.2.2.2.1 ∧ g.2.2.2.1 < 8
noncomputable def locPost (g : Addr × Obj × Led × Int × Tok) (news : Led) (v : Value) : Prop := ∃ fr', news = (g.1, g.2.1) :: fr' ∧ Grow g.2.2.1 fr' ∧ PlaceIn fr' v (tyOf g.2.2.2.1.toNat) (some g.2.2.2.1.toNat) true 0 ∧ FlatIn fr' v
theorem loc_end {h₀ h : Heap} {L : Addr} {m : Str → Option Value} {s : Shared} {Q : Value → Shared → Prop} {src D l : Addr} {o lo : Obj} {t u y tt : Tok} {tv : Value} {n : Int} {fr fr' : Led} {tk : Nat}
    (hret : ∀ r news' h' tk', Fr h₀ L h' m → News h₀ L h' news' → locPost ⟨src, o, fr, n, tt⟩ news' r → Q r { s with heap := h', toks := tk' })
    (F : Fr h₀ L h m) (N : News h₀ L h ((D, tupO [.str (Str.ofString "local") t, tv, .int 0 u, .int n y]) :: (src, o) :: (l, lo) :: fr')) (g : Grow fr fr') (ty : TyIn fr' tv (tyOf n.toNat)) (hn0 : 0 ≤ n) (hn : n < 8) :
    Q (.ref D) { s with heap := h, toks := tk } := by
  have e : n = (n.toNat : Int) := by omega
  have T : TyIn ((D, tupO [.str (Str.ofString "local") t, tv, .int 0 u, .int n y]) :: fr') tv (tyOf n.toNat) := ty.mono Sub.refl.tl.T
  refine hret _ ((src, o) :: (D, tupO [.str (Str.ofString "local") t, tv, .int 0 u, .int n y]) :: fr') _ _ F (fun p m => N p ?_) ⟨_, rfl, g.tup, .loc (x := y) (u := u) (t := t) (v := tv) (by dsimp only; omega) ?_ T, .loc (.head _) T⟩
  · rcases List.mem_cons.mp m with rfl | m
    · exact .tail _ (.head _)
    · rcases List.mem_cons.mp m with rfl | m
      · exact .head _
      · exact .tail _ (.tail _ (.tail _ m))
  · show (D, tupO [.str (Str.ofString "local") t, tv, .int 0 u, .int (n.toNat : Int) y]) ∈ _
    rw [← e]; exact .head _
set_option maxRecDepth 100000 in
set_option maxHeartbeats 8000000 in
theorem local_con (w : World) : Con w 252 598 7990 locPre locPost := by
  unfold Con
  k_fill
  rintro ⟨src, o, fr, n, tt⟩ mean mg mb env outer gd A₀ base h₀ L m news s vs Q E B F X N T hf hk ⟨rfl, rfl, ho, hoff, hn0, hn8⟩ hret
  try dsimp only at *
  k_extra "mine enter"
  k_steps
  (rename News _ _ _ _ => kN)
  (rename Fr _ _ _ _ => kF)
  (rename Grow _ _ => hg)
  (rename TyIn _ _ _ => hty)
  exact loc_end hret kF kN hg hty hn0 hn8
theorem local_use {w : World} {src : Addr} {o : Obj} {fr : Led} {n : Int} {tt : Tok}
    {mean : ExcName → Option Value} {mg mb : Str → Option Value} {A : Around} {env : Env} {outer : List Env} {A₀ : Around} {base h₀ : Heap} {L : Addr} {m : Str → Option Value} {news : Led} {s : Shared} {Q E : Value → Shared → Prop}
    (B : Below A₀ base outer h₀) (F : Fr h₀ L s.heap m) (X : (hd.heap_39 w.params).In h₀) (N : News h₀ L s.heap news) (T : Top hd.view_39 (looseW hd.view_39 [Str.ofString "ChanError"]) mean mg mb h₀)
    (a3 : A.frames = some (env :: outer)) (hf : env.frame = some L) (hk : env.scope.kind = .function) (a1 : A.handled = none) (a2 : A.depth ≤ 598) (a4 : A.units ≤ 7990)
    (hs : Pick (src, o) news fr) (ho : SrcOk o) (hoff : Off src fr) (hn0 : 0 ≤ n) (hn : n < 8)
    (k : ∀ v fr' h' tk', Grow fr fr' → Off src fr' → PlaceIn fr' v (tyOf n.toNat) (some n.toNat) true 0 → FlatIn fr' v → Fr h₀ L h' m → News h₀ L h' ((src, o) :: fr') → Q v { s with heap := h', toks := tk' }) :
    wpAny (model PySem.Challenge.rw_on0017_01.row.prog w) A (call (.ref 252) [.int n tt]) Q E s :=
  (local_con w).use ⟨src, o, fr, n, tt⟩ B F X N T hf hk a1 a2 a3 a4 hs.sub ⟨rfl, rfl, ho, hoff, hn0, hn⟩ (fun r news' h' tk' F' N' hp => by
    obtain ⟨fr', rfl, g, hP, hF⟩ := hp
    exact k _ _ _ _ g (hoff.grow g) hP hF F' N')
--#MACROS
theorem ln6 : True := by
  k_with "call ref" => (k_here; (with_reducible show wpAny _ _ (call (Value.ref 252) [Value.int _ _]) _ _ _); k_dflt ((first | with_reducible refine' local_use ?k1Qz ?k2Qz ?k3Qz ?k4Qz ?k5Qz ?a3Qz ?hfQz ?hkQz ?a1Qz ?a2Qz ?a4Qz ?hsQz ?hoQz ?offQz ?hnQz ?hn2Qz ?_ | refine' local_use ?k1Qz ?k2Qz ?k3Qz ?k4Qz ?k5Qz ?a3Qz ?hfQz ?hkQz ?a1Qz ?a2Qz ?a4Qz ?hsQz ?hoQz ?offQz ?hnQz ?hn2Qz ?_); (case k1Qz => k_asm); (case k2Qz => k_asm); (case k3Qz => k_asm); (case k4Qz => k_asm); (case k5Qz => k_asm); (case a3Qz => exact rfl); (case hfQz => first | exact rfl | assumption); (case hkQz => first | exact rfl | assumption); (case a1Qz => exact rfl); (case a2Qz => k_extra "mine room"); (case a4Qz => k_extra "mine room"); (case hoQz => assumption); (case hsQz => k_extra "mine pick"); (case offQz => k_extra "mine off"); (case hnQz => first | assumption | decide); (case hn2Qz => first | assumption | decide)); intro v'e38 fr'e38 h'e38 tk'e38 hg'e38 hoff'e38 hP'e38 hF'e38 F'e38 N'e38; (try dsimp only); (try k_sweep); (try k_fold))
  exact True.intro
--#END

end
--PART A07bTy
section
local macro_rules | `(tactic| k_all) => `(tactic| assumption)
theorem SubT.tl {a b : Led} {q : Addr × Obj} (h : SubT a b) : SubT a (q :: b) := fun p m e => .tail _ (h p m e)
theorem SubT.ap {a b t : Led} (h : SubT a b) : SubT a (t ++ b) := fun p m e => List.mem_append.mpr (.inr (h p m e))
theorem SubT.ap2 {a b t : Led} (h : SubT a b) : SubT a (b ++ t) := fun p m e => List.mem_append.mpr (.inl (h p m e))
theorem SubT.gr {a b c : Led} (g : Grow b c) (h : SubT a b) : SubT a c := fun p m e => g.1 _ (h p m e)
theorem SubT.sb {a b c : Led} (g : Sub b c) (h : SubT a b) : SubT a c := fun p m e => g _ (h p m e)
theorem SubT.st {a b c : Led} (g : SubT b c) (h : SubT a b) : SubT a c := fun p m e => g _ (h p m e) e
theorem PlaceIn.up {a b : Led} {v : Value} {ty : Ty} {r : Option Nat} {c : Bool} {d : Nat} (h : PlaceIn a v ty r c d) (s : SubT a b) : PlaceIn b v ty r c d := h.mono s
theorem TyIn.up {a b : Led} {v : Value} {ty : Ty} (h : TyIn a v ty) (s : SubT a b) : TyIn b v ty := h.mono s
theorem FlatIn.up {a b : Led} {v : Value} (h : FlatIn a v) (s : SubT a b) : FlatIn b v := h.mono s
--#MACROS
theorem ln7 : True := by
  k_with "mine subt" => first | exact SubT.refl | with_reducible assumption | (refine' SubT.tl ?pkQz; (case pkQz => k_extra "mine subt")) | (refine' SubT.gr ?pgQz ?pkQz; (case pgQz => with_reducible assumption); (case pkQz => k_extra "mine subt")) | (refine' SubT.sb ?pgQz ?pkQz; (case pgQz => with_reducible assumption); (case pkQz => k_extra "mine subt")) | fail "mine"
  k_with "mine rel" => first | with_reducible assumption | (refine' PlaceIn.up ?phQz ?psQz; (case phQz => with_reducible assumption); (case psQz => k_extra "mine subt")) | (refine' TyIn.up ?phQz ?psQz; (case phQz => with_reducible assumption); (case psQz => k_extra "mine subt")) | (refine' FlatIn.up ?phQz ?psQz; (case phQz => with_reducible assumption); (case psQz => k_extra "mine subt")) | fail "mine"
  exact True.intro
--#END
section
variable {P : Params} {h : Heap}
theorem k228 (X : (hd.heap_39 P).In h) : h.get? 228 = some (tupO [.str (Str.ofString "int") 509, .str (Str.ofString "int") 510]) := X _ _ (by kernel_rfl)
theorem k229 (X : (hd.heap_39 P).In h) : h.get? 229 = some (tupO [.str (Str.ofString "int") 514, .str (Str.ofString "int") 515]) := X _ _ (by kernel_rfl)
theorem k230 (X : (hd.heap_39 P).In h) : h.get? 230 = some (tupO [.str (Str.ofString "array") 512, .int 3 513, .ref 229]) := X _ _ (by kernel_rfl)
theorem k231 (X : (hd.heap_39 P).In h) : h.get? 231 = some (tupO [.str (Str.ofString "int") 519, .str (Str.ofString "int") 520]) := X _ _ (by kernel_rfl)
theorem k232 (X : (hd.heap_39 P).In h) : h.get? 232 = some (tupO [.str (Str.ofString "a") 518, .ref 231, .bool false]) := X _ _ (by kernel_rfl)
theorem k233 (X : (hd.heap_39 P).In h) : h.get? 233 = some (tupO [.str (Str.ofString "int") 524, .str (Str.ofString "int") 525]) := X _ _ (by kernel_rfl)
theorem k234 (X : (hd.heap_39 P).In h) : h.get? 234 = some (tupO [.str (Str.ofString "array") 522, .int 3 523, .ref 233]) := X _ _ (by kernel_rfl)
theorem k235 (X : (hd.heap_39 P).In h) : h.get? 235 = some (tupO [.str (Str.ofString "b") 521, .ref 234, .bool false]) := X _ _ (by kernel_rfl)
theorem k236 (X : (hd.heap_39 P).In h) : h.get? 236 = some (tupO [.ref 232, .ref 235]) := X _ _ (by kernel_rfl)
theorem k237 (X : (hd.heap_39 P).In h) : h.get? 237 = some (tupO [.str (Str.ofString "struct") 517, .ref 236]) := X _ _ (by kernel_rfl)
theorem k238 (X : (hd.heap_39 P).In h) : h.get? 238 = some (tupO [.str (Str.ofString "named") 527, .str (Str.ofString "main.N") 528]) := X _ _ (by kernel_rfl)
noncomputable def intD : PyData := .tuple [.str (Str.ofString "int"), .str (Str.ofString "int")]
noncomputable def arrD : PyData := .tuple [.str (Str.ofString "array"), .int 3, intD]
noncomputable def pairD : PyData := .tuple [.str (Str.ofString "struct"), .tuple [.tuple [.str (Str.ofString "a"), intD, .bool false], .tuple [.str (Str.ofString "b"), arrD, .bool false]]]
noncomputable def tyD : Ty → PyData
  | .int => intD
  | .arr => arrD
  | .pair => pairD
  | .named => .tuple [.str (Str.ofString "named"), .str (Str.ofString "main.N")]
  | .ptr => .tuple [.str (Str.ofString "ptr"), pairD]
  | .slice => .tuple [.str (Str.ofString "slice"), pairD]
  | .arr2 => .tuple [.str (Str.ofString "array"), .int 2, pairD]
theorem rd {a : Addr} {vs : List Value} {ds : List PyData} {as : List Addr} (e : h.get? a = some (tupO vs)) (r : ReadsAll h vs ds as) : Reads h (.ref a) (.tuple ds) as := reads_tuple_at e rfl rfl r
theorem rInt {a : Addr} {t u : Tok} (e : h.get? a = some (tupO [.str (Str.ofString "int") t, .str (Str.ofString "int") u])) : ∃ as, Reads h (.ref a) intD as := ⟨_, rd e (.cons (.str _ _) (.cons (.str _ _) .nil))⟩
theorem rArr {a b : Addr} {t u : Tok} (e : h.get? a = some (tupO [.str (Str.ofString "array") t, .int 3 u, .ref b])) (r : ∃ as, Reads h (.ref b) intD as) : ∃ as, Reads h (.ref a) arrD as :=
  let ⟨_, r⟩ := r; ⟨_, rd e (.cons (.str _ _) (.cons (.int _ _) (.cons r .nil)))⟩
theorem rPair (X : (hd.heap_39 P).In h) : ∃ as, Reads h (.ref 237) pairD as := by
  obtain ⟨as, ra⟩ := rInt (k231 X)
  obtain ⟨bs, rb⟩ := rArr (k234 X) (rInt (k233 X))
  exact ⟨_, rd (k237 X) (.cons (.str _ _) (.cons (rd (k236 X) (.cons (rd (k232 X) (.cons (.str _ _) (.cons ra (.cons (.bool _) .nil)))) (.cons (rd (k235 X) (.cons (.str _ _) (.cons rb (.cons (.bool _) .nil)))) .nil))) .nil))⟩
theorem ty_reads {h₀ : Heap} {L : Addr} {fr news : Led} {v : Value} {ty : Ty} (X : (hd.heap_39 P).In h) (N : News h₀ L h news) (s : SubT fr news) (T : TyIn fr v ty) : ∃ as, Reads h v (tyD ty) as := by
  cases T
  case i228 => exact rInt (k228 X)
  case i229 => exact rInt (k229 X)
  case i231 => exact rInt (k231 X)
  case i233 => exact rInt (k233 X)
  case a230 => exact rArr (k230 X) (rInt (k229 X))
  case a234 => exact rArr (k234 X) (rInt (k233 X))
  case pair => exact rPair X
  case named => exact ⟨_, rd (k238 X) (.cons (.str _ _) (.cons (.str _ _) .nil))⟩
  case ptr m => let ⟨_, r⟩ := rPair X; exact ⟨_, rd (N.get (s.tup m)) (.cons (.str _ _) (.cons r .nil))⟩
  case slice m => let ⟨_, r⟩ := rPair X; exact ⟨_, rd (N.get (s.tup m)) (.cons (.str _ _) (.cons r .nil))⟩
  case arr2 m => let ⟨_, r⟩ := rPair X; exact ⟨_, rd (N.get (s.tup m)) (.cons (.str _ _) (.cons (.int _ _) (.cons r .nil)))⟩
end
noncomputable def Ty.isNamed : Ty → Bool
  | .named => true
  | _ => false
theorem tyD_shaped (ty : Ty) : SeqAt.shaped (tyD ty) = true := by cases ty <;> decide +kernel
theorem tyD_eqv (ty : Ty) : PyData.eqv (tyD ty) (tyD .named) = ty.isNamed := by cases ty <;> decide +kernel
theorem ty_eq {prog : Program} {w : World} {A : Around} {E : Value → Shared → Prop} {s : Shared} {Q : Value → Shared → Prop} {P : Params} {h₀ : Heap} {L : Addr} {m : Str → Option Value} {fr news : Led} {v : Value} {ty : Ty} (F : Fr h₀ L s.heap m) (X : (hd.heap_39 P).In h₀) (N : News h₀ L s.heap news) (T : TyIn fr v ty) (sb : SubT fr news) (hu : A.units + 64 < cLine)
    (h : Q (.bool ty.isNamed) s) : wpAny (model prog w) A (compareOp .Eq v (.ref 238)) Q E s := by
  have X' := X.keeps F.keep
  obtain ⟨as, r⟩ := ty_reads X' N sb T
  obtain ⟨bs, r'⟩ := ty_reads X' N sb (.named : TyIn fr (.ref 238) .named)
  exact eq_dataH r r' (tyD_shaped _) (tyD_shaped _) hu (by rw [tyD_eqv]; exact h)
--#MACROS
theorem ln8 : True := by
  k_with "compareOp Eq" => (k_here; (with_reducible show wpAny _ _ (compareOp CmpOp.Eq _ (Value.ref 238)) _ _ _); k_dflt ((first | with_reducible refine' ty_eq ?FQz ?XQz ?NQz ?TQz ?sbQz ?huQz ?_ | refine' ty_eq ?FQz ?XQz ?NQz ?TQz ?sbQz ?huQz ?_); (case FQz => k_asm); (case XQz => k_asm); (case NQz => k_asm); (case TQz => assumption); (case sbQz => k_extra "mine subt"); (case huQz => ke_room)); (rename TyIn _ _ _ => hT9e41); (cases hT9e41); all_goals (try dsimp only [Ty.isNamed]))
  exact True.intro
--#END
section
variable {prog : Program} {w : World} {A : Around} {E : Value → Shared → Prop} {s : Shared} {Q : Value → Shared → Prop} {h₀ : Heap} {L : Addr} {news : Led}
theorem tup_item {value slice : Expr} {a : Addr} {l : List Value} {k : Int} {u : Tok} {j : Nat} {v : Value} (N : News h₀ L s.heap news) (hm : (a, tupO l) ∈ news)
    (hlo : -(2 ^ 63) ≤ k) (hhi : k < 2 ^ 63) (hj : seqIndex? k l.length = some j) (hx : l[j]? = some v) (h : Q v s)
    (hs : subscripted slice false (.ref a) (.int k u) = operate [.ref a, .int k u] (getItem (.ref a) (.int k u)) := by with_unfolding_all rfl) :
    wpAny (model prog w) A (subscriptTail value slice (.ref a) (.int k u)) Q E s := item_tupleT (N.isTup hm) hlo hhi hj hx h hs
theorem two_item {value slice : Expr} {l src : Addr} {o : Obj} {fr : Led} {x y : Value} {n : Nat} {k : Int} {u : Tok} (N : News h₀ L s.heap news) (hl : (l, listOf #[x, y] n) ∈ news) (_hs : Pick (src, o) news fr) (_ho : SrcOk o) (h0 : 0 ≤ k) (h2 : k < 2) (hx : FlatIn fr x) (hy : FlatIn fr y) (h : ∀ v, FlatIn fr v → Q v s)
    (hs : subscripted slice false (.ref l) (.int k u) = operate [.ref l, .int k u] (getItem (.ref l) (.int k u)) := by with_unfolding_all rfl) :
    wpAny (model prog w) A (subscriptTail value slice (.ref l) (.int k u)) Q E s := by
  have hL : s.heap.IsList l #[x, y] := ⟨_, (N _ hl).1, rfl, n, rfl⟩
  obtain rfl | rfl : k = 0 ∨ k = 1 := by omega
  · exact tail_any hL.typeIs slot_list_getitem.lookup (wpAny_getItem_list hL (by decide) (by decide) rfl (h _ hx)) hs
  · exact tail_any hL.typeIs slot_list_getitem.lookup (wpAny_getItem_list hL (by decide) (by decide) rfl (h _ hy)) hs
end
theorem two_of {k : Int} (h0 : 0 ≤ k) (h2 : k < 2) : k = 0 ∨ k = 1 := by omega
--#MACROS
theorem ln9 : True := by
  k_with "subscriptTail Subscript Name Constant Name ref int" => (k_here; (with_reducible show wpAny _ _ (subscriptTail _ _ (Value.ref 236) (Value.int _ _)) _ _ _); (with_reducible rename _ < (2 : Int) => hB9e42); (with_reducible rename (0 : Int) ≤ _ => hA9e42); (rcases two_of hA9e42 hB9e42 with e9e42 | e9e42 <;> subst e9e42))
  k_with "subscriptTail" => (k_here; (with_reducible show wpAny _ _ (subscriptTail _ _ (Value.ref _) (Value.int _ _)) _ _ _); k_dflt ((first | with_reducible refine' tup_item ?k1Qz ?k2Qz ?k3Qz ?k4Qz ?k5Qz ?k6Qz ?_ ?k7Qz | refine' tup_item ?k1Qz ?k2Qz ?k3Qz ?k4Qz ?k5Qz ?k6Qz ?_ ?k7Qz); (case k1Qz => k_asm); (case k2Qz => k_extra "mine mem"); (case k3Qz => decide); (case k4Qz => decide); (case k5Qz => exact rfl); (case k6Qz => exact rfl); (case k7Qz => with_unfolding_all rfl)); (try dsimp only); (try k_fold))
  k_with "subscriptTail Name Constant ref int" => (k_here; (with_reducible show wpAny _ _ (subscriptTail _ _ (Value.ref _) (Value.int _ _)) _ _ _); k_dflt ((first | with_reducible refine' tup_item ?k1Qz ?k2Qz ?k3Qz ?k4Qz ?k5Qz ?k6Qz ?_ ?k7Qz | refine' tup_item ?k1Qz ?k2Qz ?k3Qz ?k4Qz ?k5Qz ?k6Qz ?_ ?k7Qz); (case k1Qz => k_asm); (case k2Qz => k_extra "mine mem"); (case k3Qz => decide); (case k4Qz => decide); (case k5Qz => exact rfl); (case k6Qz => exact rfl); (case k7Qz => with_unfolding_all rfl)); (try dsimp only); (try k_fold))
  k_with "subscriptTail" => (k_here; (with_reducible show wpAny _ _ (subscriptTail _ _ (Value.ref _) (Value.int _ _)) _ _ _); k_dflt ((first | with_reducible refine' topTup_K ?k1Qz ?k2Qz ?k3Qz ?kaQz ?kbQz ?kcQz ?kdQz ?_ ?k7Qz | refine' topTup_K ?k1Qz ?k2Qz ?k3Qz ?kaQz ?kbQz ?kcQz ?kdQz ?_ ?k7Qz); (case k2Qz => k_asm); (case k3Qz => k_is); (case k1Qz => k_asm); (case kaQz => decide); (case kbQz => decide); (case kcQz => exact rfl); (case kdQz => exact rfl); (case k7Qz => with_unfolding_all rfl)); (try dsimp only); (try k_fold))
  k_with "subscriptTail Name Constant ref int" => (k_here; (with_reducible show wpAny _ _ (subscriptTail _ _ (Value.ref _) (Value.int _ _)) _ _ _); k_dflt ((first | with_reducible refine' topTup_K ?k1Qz ?k2Qz ?k3Qz ?kaQz ?kbQz ?kcQz ?kdQz ?_ ?k7Qz | refine' topTup_K ?k1Qz ?k2Qz ?k3Qz ?kaQz ?kbQz ?kcQz ?kdQz ?_ ?k7Qz); (case k2Qz => k_asm); (case k3Qz => k_is); (case k1Qz => k_asm); (case kaQz => decide); (case kbQz => decide); (case kcQz => exact rfl); (case kdQz => exact rfl); (case k7Qz => with_unfolding_all rfl)); (try dsimp only); (try k_fold))
  k_with "subscriptTail Name Call ref int" => (k_here; (with_reducible show wpAny _ _ (subscriptTail _ _ (Value.ref _) (Value.int _ _)) _ _ _); k_dflt ((first | with_reducible refine' two_item ?k1Qz ?k2Qz ?ksQz ?koQz ?k3Qz ?k4Qz ?kxQz ?kyQz ?_ ?k7Qz | refine' two_item ?k1Qz ?k2Qz ?ksQz ?koQz ?k3Qz ?k4Qz ?kxQz ?kyQz ?_ ?k7Qz); (case k1Qz => k_asm); (case k2Qz => k_extra "mine mem"); (case koQz => assumption); (case ksQz => k_extra "mine pick"); (case k3Qz => assumption); (case k4Qz => assumption); (case kxQz => exact FlatIn.const (by k_extra "mine mem")); (case kyQz => k_extra "mine rel"); (case k7Qz => with_unfolding_all rfl)); intro v'e47 hF'e47; (try dsimp only); (try k_fold))
  exact True.intro
--#END

end
--PART A08Place
section
local macro_rules | `(tactic| k_all) => `(tactic| assumption)
noncomputable def RootV (r : Option Nat) (v : Value) : Prop := match r with | .none => v = .none | some n => ∃ t, v = .int (n : Int) t
theorem RootV.of_int {k : Int} {t : Tok} (h : 0 ≤ k) : RootV (some k.toNat) (.int k t) := ⟨t, by rw [show ((k.toNat : Nat) : Int) = k by omega]⟩
noncomputable def plPre (g : Addr × Obj × Led) (news : Led) (vs : List Value) : Prop := news = (g.1, g.2.1) :: g.2.2 ∧ vs = [.ref g.1] ∧ SrcOk g.2.1 ∧ Off g.1 g.2.2
noncomputable def plPost (g : Addr × Obj × Led) (news : Led) (v : Value) : Prop := ∃ o fr a pv rv ty r b d, v = .ref a ∧ news = (g.1, o) :: fr ∧ SrcOk o ∧ Grow g.2.2 fr ∧ (a, tupO [pv, rv, .bool b]) ∈ fr ∧ PlaceIn fr pv ty r b d ∧ RootV r rv ∧ d ≤ 3
structure PS where
  (o : Obj) (pv rv tv : Value) (ty : Ty) (r : Option Nat) (b : Bool) (d : Nat)
noncomputable def plInv (i : Nat) (c : PS) (fr : Led) : Prop := SrcOk c.o ∧ PlaceIn fr c.pv c.ty c.r c.b c.d ∧ TyIn fr c.tv c.ty ∧ RootV c.r c.rv ∧ c.d ≤ i
noncomputable def plMu (src : Addr) (c : PS) : Led := [(src, c.o)]
noncomputable def plPs (c : PS) : List (Str × Value) := [(Str.ofString "place", c.pv), (Str.ofString "root", c.rv), (Str.ofString "told", c.tv)]
noncomputable def plTmp : List Str := [Str.ofString "kind", Str.ofString "at"]
theorem place_loop {prog : Program} {w : World} {A : Around} {E : Value → Shared → Prop} {s : Shared} {env : Env} {h₀ : Heap} {x : Str} {body : List Stmt} {Q : Flow → Shared → Prop}
    {r src : Addr} {d : Int} {t₀ u₀ v₀ : Tok} {m₀ : Str → Option Value} {o : Obj} {news fr₀ : Led} {pv rv tv : Value} {ty : Ty} {n : Nat}
    (hr : IsRange s.heap r 0 d 1 t₀ u₀ v₀) (hh : A.handled = none) (hd0 : 0 ≤ d) (hd : d < 4) (F : Fr h₀ env.locals s.heap m₀) (N : News h₀ env.locals s.heap news) (ho : SrcOk o) (hs : Pick (src, o) news fr₀) (hoff : Off src fr₀)
    (hk1 : m₀ (Str.ofString "place") = some pv) (hk2 : m₀ (Str.ofString "root") = some rv) (hk3 : m₀ (Str.ofString "told") = some tv) (hP : PlaceIn fr₀ pv ty (some n) true 0) (hT : TyIn fr₀ tv ty) (hR : RootV (some n) rv)
    (turn : ∀ i k t o pv rv tv ty r b d fr (u : Str → Option Value) h tk, Sub fr₀ fr → Off src fr → SrcOk o → PlaceIn fr pv ty r b d → TyIn fr tv ty → RootV r rv → d ≤ i →
      Fr h₀ env.locals h (fun y => if y = x then some (.int k t) else if y = Str.ofString "place" then some pv else if y = Str.ofString "root" then some rv else if y = Str.ofString "told" then some tv else if plTmp.contains y then u y else m₀ y) → News h₀ env.locals h ((src, o) :: fr) →
      wpAny (model prog w) A (execs body env) (TurnPost Grow h₀ env.locals (plMu src) [src] plPs x plTmp m₀ (plInv (i + 1)) fr { s with heap := h, toks := tk } Q) E { s with heap := h, toks := tk })
    (done : ∀ o pv rv tv ty r b d fr (u : Str → Option Value) h tk, Grow fr₀ fr → Off src fr → SrcOk o → PlaceIn fr pv ty r b d → TyIn fr tv ty → RootV r rv → d ≤ 3 →
      Fr h₀ env.locals h (fun y => if y = x then u y else if y = Str.ofString "place" then some pv else if y = Str.ofString "root" then some rv else if y = Str.ofString "told" then some tv else if plTmp.contains y then u y else m₀ y) → News h₀ env.locals h ((src, o) :: fr) → Q .next { s with heap := h, toks := tk }) :
    wpAny (model prog w) A (pyIter (.ref r)) (fun it s₂ => LoopAtV prog w A h₀ env x body Q E it s₂) E s := by
  refine loop_range (σ := PS) (plMu src) [src] plPs plTmp plInv ⟨o, pv, rv, tv, ty, some n, true, 0⟩ fr₀ (fun _ => rfl) ?_ hh hr (n := (d - 0).toNat) ?_ (rangeSize_nat _ _) F (fun p m => N p (hs.sub p m)) ?_ ?_ ⟨ho, hP, hT, hR, Nat.le_refl _⟩ ?_ ?_
  · rintro i c fr fr' st ⟨h1, h2, h3, h4, h5⟩
    exact ⟨h1, h2.mono st, h3.mono st, h4, h5⟩
  · obtain rfl | rfl | rfl | rfl : d = 0 ∨ d = 1 ∨ d = 2 ∨ d = 3 := by omega
    all_goals decide
  · intro a ha
    rw [List.mem_singleton.mp ha]
    exact hoff
  · intro p hp
    simp only [plPs, List.mem_cons, List.not_mem_nil, or_false] at hp
    rcases hp with rfl | rfl | rfl
    · exact hk1
    · exact hk2
    · exact hk3
  · rintro i k t ⟨o, pv, rv, tv, ty, r, b, d⟩ fr u h tk hi hk hs hoff ⟨h1, h2, h3, h4, h5⟩ F' N'
    exact turn i k t o pv rv tv ty r b d fr u h tk hs (hoff src (.head _)) h1 h2 h3 h4 h5 F' N'
  · rintro ⟨o, pv, rv, tv, ty, r, b, d'⟩ fr u h tk hs hoff ⟨h1, h2, h3, h4, h5⟩ F' N'
    exact done o pv rv tv ty r b d' fr u h tk hs (hoff src (.head _)) h1 h2 h3 h4 (by dsimp only at h5; omega) F' N'
theorem place_turn {h₀ h : Heap} {L src : Addr} {x : Str} {m₀ m' : Str → Option Value} {i : Nat} {fr fr' news : Led} {s₁ : Shared} {Q : Flow → Shared → Prop} {o : Obj} {pv rv tv : Value} {ty : Ty} {r : Option Nat} {b : Bool} {d tk : Nat}
    (F : Fr h₀ L h m') (N : News h₀ L h news) (ho : SrcOk o) (hs : Pick (src, o) news fr') (sb : Sub fr fr') (off : Off src fr) (hk1 : m' (Str.ofString "place") = some pv) (hk2 : m' (Str.ofString "root") = some rv) (hk3 : m' (Str.ofString "told") = some tv)
    (hm : ∀ z, z ≠ x → z ≠ Str.ofString "place" → z ≠ Str.ofString "root" → z ≠ Str.ofString "told" → plTmp.contains z = false → m' z = m₀ z) (hT : TyIn fr' tv ty) (hP : PlaceIn fr' pv ty r b d) (hR : RootV r rv) (hd : d ≤ i + 1) :
    TurnPost Grow h₀ L (plMu src) [src] plPs x plTmp m₀ (plInv (i + 1)) fr s₁ Q .next { s₁ with heap := h, toks := tk } := by
  refine ⟨h, tk, m', ⟨o, pv, rv, tv, ty, r, b, d⟩, clean fr fr', rfl, F, fun p m => N p (hs.sub p ?_), Grow.clean, ?_, ?_, ?_, ho, hP.mono SubT.clean, hT.mono SubT.clean, hR, hd⟩
  · rcases List.mem_cons.mp m with rfl | m
    · exact .head _
    · exact .tail _ (sb.clean p m)
  · intro a ha
    rw [List.mem_singleton.mp ha]
    exact off.clean
  · intro p hp
    simp only [plPs, List.mem_cons, List.not_mem_nil, or_false] at hp
    rcases hp with rfl | rfl | rfl
    · exact hk1
    · exact hk2
    · exact hk3
  · intro z h1 h2 h3
    exact hm z h1 (h2 (_, pv) (.head _)) (h2 (_, rv) (.tail _ (.head _))) (h2 (_, tv) (.tail _ (.tail _ (.head _)))) h3
theorem place_end {h₀ h : Heap} {L src : Addr} {m : Str → Option Value} {fr fr' news : Led} {s : Shared} {Q : Value → Shared → Prop} {a : Addr} {o o' : Obj} {pv rv : Value} {ty : Ty} {r : Option Nat} {b b' : Bool} {d tk : Nat}
    (hret : ∀ r news' h' tk', Fr h₀ L h' m → News h₀ L h' news' → plPost (src, o, fr) news' r → Q r { s with heap := h', toks := tk' })
    (F : Fr h₀ L h m) (N : News h₀ L h news) (ho : SrcOk o') (hs : Pick (src, o') news fr') (sb : Sub fr fr') (hm : (a, tupO [pv, rv, .bool b']) ∈ fr') (hP : PlaceIn fr' pv ty r b d) (hb : b' = b) (hR : RootV r rv) (hd : d ≤ 3) :
    Q (.ref a) { s with heap := h, toks := tk } := by
  subst hb
  refine hret _ ((src, o') :: clean fr fr') _ _ F (fun p m => N p (hs.sub p ?_)) ⟨o', clean fr fr', a, pv, rv, ty, r, b', d, rfl, rfl, ho, Grow.clean, SubT.clean.tup hm, hP.mono SubT.clean, hR, hd⟩
  rcases List.mem_cons.mp m with rfl | m
  · exact .head _
  · exact .tail _ (sb.clean p m)
--#MACROSX
theorem ln10 : True := by
  k_with "pyIter ref" => (k_here; (with_reducible show wpAny _ _ (pyIter (Value.ref _)) (fun it s₂ => LoopAtV _ _ _ _ _ _ _ _ _ it s₂) _ _); (rename IsRange _ _ _ _ _ _ _ _ => rgXe48); k_dflt ((first | with_reducible refine' place_loop rgXe48 ?hhQz ?hd0Qz ?hdQz ?FQz ?NQz ?hoQz ?hsQz ?offQz ?hk1Qz ?hk2Qz ?hk3Qz ?hPQz ?hTQz ?hRQz ?turnQz ?doneQz | refine' place_loop rgXe48 ?hhQz ?hd0Qz ?hdQz ?FQz ?NQz ?hoQz ?hsQz ?offQz ?hk1Qz ?hk2Qz ?hk3Qz ?hPQz ?hTQz ?hRQz ?turnQz ?doneQz); (case hhQz => rfl); (case hd0Qz => assumption); (case hdQz => assumption); (case FQz => k_asm); (case NQz => k_asm); (case hoQz => assumption); (case hsQz => k_extra "mine pick"); (case offQz => k_extra "mine off"); (case hk1Qz => rfl); (case hk2Qz => rfl); (case hk3Qz => rfl); (case hPQz => k_extra "mine rel"); (case hTQz => k_extra "mine rel"); (case hRQz => exact RootV.of_int (by assumption))))
  k_with "TurnPost" => (k_here; k_dflt ((first | with_reducible refine' place_turn ?FQz ?NQz ?hoQz ?hsQz ?sbQz ?offQz ?hk1Qz ?hk2Qz ?hk3Qz ?hmQz ?hTQz ?hPQz ?hRQz ?hdQz | refine' place_turn ?FQz ?NQz ?hoQz ?hsQz ?sbQz ?offQz ?hk1Qz ?hk2Qz ?hk3Qz ?hmQz ?hTQz ?hPQz ?hRQz ?hdQz); (case FQz => k_asm); (case NQz => k_asm); (case hoQz => assumption); (case hsQz => k_extra "mine pick"); (case sbQz => k_extra "mine sub"); (case offQz => assumption); (case hk1Qz => exact rfl); (case hk2Qz => exact rfl); (case hk3Qz => exact rfl); (case hmQz => (intro ze49 h1e49 h2e49 h3e49 h4e49 h5e49; have h6e49 := h5e49; (simp only [plTmp, List.contains_cons, List.contains_nil, Bool.or_false, Bool.or_eq_false_iff, beq_eq_false_iff_ne, ne_eq] at h5e49); (obtain ⟨h7e49, h8e49⟩ := h5e49); (simp only [h1e49, h2e49, h3e49, h4e49, h6e49, h7e49, h8e49, Bool.false_eq_true, ↓reduceIte]; done))); (case hTQz => first | k_extra "mine rel" | constructor); (case hPQz => first | k_extra "mine rel" | exact PlaceIn.field (by k_extra "mine mem") (by constructor) (by k_extra "mine rel") | exact PlaceIn.index (by k_extra "mine mem") (by constructor) (by k_extra "mine rel") (by k_extra "mine rel") | exact PlaceIn.deref (by k_extra "mine mem") (by constructor) (by k_extra "mine rel")); (case hRQz => first | assumption | exact rfl); (case hdQz => omega)))
  k_with "subscriptTail Name Constant int" => (k_here; (rename PlaceIn _ _ _ _ _ _ => hP9e50); (have hP10e50 := hP9e50); (cases hP9e50))
  exact True.intro
set_option maxRecDepth 100000 in
set_option maxHeartbeats 8000000 in
theorem place_con (w : World) : Con w 259 590 7900 plPre plPost := by
  unfold Con
  k_fill
  rintro ⟨src, o, fr⟩ mean mg mb env outer gd A₀ base h₀ L m news s vs Q E B F X N T hf hk ⟨rfl, rfl, ho, hoff⟩ hret
  try dsimp only at *
  k_extra "mine enter"
  k_steps
  all_goals (refine' place_end hret ?F ?N ?ho ?hs ?sb ?hm ?hP ?hb ?hR ?hd; (case F => k_asm); (case N => k_asm); (case ho => assumption); (case hs => k_extra "mine pick"); (case sb => k_extra "mine sub"); (case hm => k_extra "mine mem"); (case hP => k_extra "mine rel"); (case hb => decide); (case hR => assumption); (case hd => omega))

end
--PART A09Walk
section
/-- the written part's tuples -/
inductive KTup : Addr → List Value → Prop
  | k228 : KTup 228 [.str (Str.ofString "int") 509, .str (Str.ofString "int") 510]
  | k229 : KTup 229 [.str (Str.ofString "int") 514, .str (Str.ofString "int") 515]
  | k230 : KTup 230 [.str (Str.ofString "array") 512, .int 3 513, .ref 229]
  | k231 : KTup 231 [.str (Str.ofString "int") 519, .str (Str.ofString "int") 520]
  | k232 : KTup 232 [.str (Str.ofString "a") 518, .ref 231, .bool false]
  | k233 : KTup 233 [.str (Str.ofString "int") 524, .str (Str.ofString "int") 525]
  | k234 : KTup 234 [.str (Str.ofString "array") 522, .int 3 523, .ref 233]
  | k235 : KTup 235 [.str (Str.ofString "b") 521, .ref 234, .bool false]
  | k236 : KTup 236 [.ref 232, .ref 235]
  | k237 : KTup 237 [.str (Str.ofString "struct") 517, .ref 236]
  | k238 : KTup 238 [.str (Str.ofString "named") 527, .str (Str.ofString "main.N") 528]
theorem KTup.get {P : Params} {h : Heap} {a : Addr} {vs : List Value} (X : (hd.heap_39 P).In h) (k : KTup a vs) : h.get? a = some (tupO vs) := by
  cases k
  · exact Mine.k228 X
  · exact Mine.k229 X
  · exact Mine.k230 X
  · exact Mine.k231 X
  · exact Mine.k232 X
  · exact Mine.k233 X
  · exact Mine.k234 X
  · exact Mine.k235 X
  · exact Mine.k236 X
  · exact Mine.k237 X
  · exact Mine.k238 X
noncomputable def TupAt (l : Led) (a : Addr) (vs : List Value) : Prop := (a, tupO vs) ∈ l ∨ KTup a vs
theorem TupAt.mono {l l' : Led} {a : Addr} {vs : List Value} (s : SubT l l') (h : TupAt l a vs) : TupAt l' a vs := h.imp s.tup id
theorem TupAt.get {P : Params} {h₀ h : Heap} {L : Addr} {l news : Led} {a : Addr} {vs : List Value} (X : (hd.heap_39 P).In h) (N : News h₀ L h news) (s : SubT l news) (k : TupAt l a vs) : h.get? a = some (tupO vs) := k.elim (fun m => N.get (s.tup m)) (KTup.get X)
/-- a tuple that is_type takes for a type -/
inductive TypeLike : List Value → Prop
  | ptr {t : Tok} {v : Value} : TypeLike [.str (Str.ofString "ptr") t, v]
  | named {t : Tok} {v : Value} : TypeLike [.str (Str.ofString "named") t, v]
  | slice {t : Tok} {a : Addr} {ws : List Value} : KTup a ws → TypeLike [.str (Str.ofString "slice") t, .ref a]
  | array {t u : Tok} {k : Int} {a : Addr} {ws : List Value} : KTup a ws → TypeLike [.str (Str.ofString "array") t, .int k u, .ref a]
noncomputable def rootL : Option Nat → List Int
  | none => []
  | some n => [(n : Int)]
noncomputable def plainHeads : List Str := [Str.ofString "local", Str.ofString "field", Str.ofString "index", Str.ofString "deref", Str.ofString "const", Str.ofString "binary", Str.ofString "bool", Str.ofString "int", Str.ofString "struct", Str.ofString "a", Str.ofString "b", Str.ofString "do", Str.ofString "let", Str.ofString "block", Str.ofString "if", Str.ofString "for", Str.ofString "zero"]
/-- what boxed_of finds at a node itself -/
inductive Own (l : Led) : Str → List Value → List Int → Prop
  | plain {x : Str} {vs : List Value} : x ∈ plainHeads → Own l x vs []
  | address {tv pv : Value} {u : Tok} {ty : Ty} {r : Option Nat} {b : Bool} {d : Nat} : PlaceIn l pv ty r b d → Own l (Str.ofString "address") [tv, .int 0 u, pv] (rootL r)
  | cut {tv pv cv : Value} {u : Tok} {ty : Ty} {r : Option Nat} {b : Bool} {d : Nat} : PlaceIn l pv ty r b d → Own l (Str.ofString "cut") [tv, .int 0 u, pv, .none, cv, .none] (if ty.isArr then rootL r else [])
  | set1 {a : Addr} {pv vv : Value} {u : Tok} {ty : Ty} {r : Option Nat} {b : Bool} {d : Nat} : (a, tupO [pv]) ∈ l → PlaceIn l pv ty r b d → Own l (Str.ofString "set") [.int 0 u, .ref a, vv] (if b then [] else rootL r)
  | set2 {a : Addr} {pv vv : Value} {u : Tok} {ty : Ty} {r : Option Nat} {b : Bool} {d : Nat} : (a, tupO [pv, .none]) ∈ l → PlaceIn l pv ty r b d → Own l (Str.ofString "set") [.int 0 u, .ref a, vv] (if b then [] else rootL r)
  | update {pv vv : Value} {u t : Tok} {ty : Ty} {r : Option Nat} {b : Bool} {d : Nat} : PlaceIn l pv ty r b d → Own l (Str.ofString "update") [.int 0 u, .str (Str.ofString "+") t, pv, vv] (if b then [] else rootL r)
theorem Own.mono {l l' : Led} {x : Str} {vs : List Value} {own : List Int} (s : SubT l l') (h : Own l x vs own) : Own l' x vs own := by
  cases h
  case plain h => exact .plain h
  case address h => exact .address (h.mono s)
  case cut h => exact .cut (h.mono s)
  case set1 m h => exact .set1 (s.tup m) (h.mono s)
  case set2 m h => exact .set2 (s.tup m) (h.mono s)
  case update h => exact .update (h.mono s)
noncomputable def plainV : Value → Bool
  | .none | .bool _ | .int _ _ | .str _ _ => true
  | _ => false
noncomputable def isStrV : Value → Bool
  | .str _ _ => true
  | _ => false
mutual
/-- a datum that the walk of boxed_locals takes: what it finds below, and how many nodes -/
inductive Walk (l : Led) : Value → List Int → Nat → Prop
  | flat {v : Value} : plainV v = true → Walk l v [] 0
  | empty {a : Addr} : TupAt l a [] → Walk l (.ref a) [] 1
  | type {a : Addr} {vs : List Value} : TupAt l a vs → TypeLike vs → Walk l (.ref a) [] 1
  | seq {a : Addr} {v : Value} {vs : List Value} {xs : List Int} {n : Nat} : TupAt l a (v :: vs) → isStrV v = false → WalkAll l (v :: vs) xs n → Walk l (.ref a) xs (n + 1)
  | node {a : Addr} {x : Str} {t : Tok} {vs : List Value} {own xs : List Int} {n : Nat} : TupAt l a (.str x t :: vs) → Own l x vs own → WalkAll l vs xs n → Walk l (.ref a) (own ++ xs) (n + 1)
inductive WalkAll (l : Led) : List Value → List Int → Nat → Prop
  | nil : WalkAll l [] [] 0
  | cons {v : Value} {vs : List Value} {xs ys : List Int} {n k : Nat} : Walk l v xs n → WalkAll l vs ys k → WalkAll l (v :: vs) (xs ++ ys) (n + k)
end
mutual
theorem Walk.mono {l l' : Led} (s : SubT l l') : ∀ {v : Value} {xs : List Int} {n : Nat}, Walk l v xs n → Walk l' v xs n
  | _, _, _, .flat h => .flat h
  | _, _, _, .empty h => .empty (h.mono s)
  | _, _, _, .type h k => .type (h.mono s) k
  | _, _, _, .seq h k r => .seq (h.mono s) k (WalkAll.mono s r)
  | _, _, _, .node h k r => .node (h.mono s) (k.mono s) (WalkAll.mono s r)
theorem WalkAll.mono {l l' : Led} (s : SubT l l') : ∀ {vs : List Value} {xs : List Int} {n : Nat}, WalkAll l vs xs n → WalkAll l' vs xs n
  | _, _, _, .nil => .nil
  | _, _, _, .cons h r => .cons (Walk.mono s h) (WalkAll.mono s r)
end
theorem Walk.up {a b : Led} {v : Value} {xs : List Int} {n : Nat} (h : Walk a v xs n) (s : SubT a b) : Walk b v xs n := h.mono s
/-- found below: the very elements of xs -/
noncomputable def Fnd (l : Led) (v : Value) (xs : List Int) (n : Nat) : Prop := ∃ ys k, Walk l v ys k ∧ k ≤ n ∧ ∀ x, x ∈ ys ↔ x ∈ xs
theorem Fnd.mono {l l' : Led} {v : Value} {xs : List Int} {n : Nat} (s : SubT l l') (h : Fnd l v xs n) : Fnd l' v xs n := let ⟨ys, k, w, a, b⟩ := h; ⟨ys, k, w.mono s, a, b⟩
theorem Fnd.up {l l' : Led} {v : Value} {xs : List Int} {n : Nat} (h : Fnd l v xs n) (s : SubT l l') : Fnd l' v xs n := h.mono s
noncomputable def FndAll (l : Led) (vs : List Value) (xs : List Int) (n : Nat) : Prop := ∃ ys k, WalkAll l vs ys k ∧ k ≤ n ∧ ∀ x, x ∈ ys ↔ x ∈ xs
theorem FndAll.nil {l : Led} : FndAll l [] [] 0 := ⟨[], 0, .nil, Nat.le_refl _, fun _ => Iff.rfl⟩
theorem FndAll.cons {l : Led} {v : Value} {vs : List Value} {xs ys : List Int} {n k : Nat} (h : Fnd l v xs n) (r : FndAll l vs ys k) : FndAll l (v :: vs) (xs ++ ys) (n + k) := by
  obtain ⟨xs', n', w, hn, hx⟩ := h
  obtain ⟨ys', k', w', hk, hy⟩ := r
  exact ⟨_, _, .cons w w', by omega, fun x => by rw [List.mem_append, List.mem_append, hx, hy]⟩
theorem Fnd.flat {l : Led} {v : Value} (h : plainV v = true) : Fnd l v [] 0 := ⟨[], 0, .flat h, Nat.le_refl _, fun _ => Iff.rfl⟩
theorem Fnd.empty {l : Led} {a : Addr} (h : (a, tupO []) ∈ l) : Fnd l (.ref a) [] 1 := ⟨[], 1, .empty (.inl h), Nat.le_refl _, fun _ => Iff.rfl⟩
theorem Fnd.type {l : Led} {a : Addr} {vs : List Value} (h : (a, tupO vs) ∈ l) (k : TypeLike vs) : Fnd l (.ref a) [] 1 := ⟨[], 1, .type (.inl h) k, Nat.le_refl _, fun _ => Iff.rfl⟩
theorem Fnd.seq {l : Led} {a : Addr} {v : Value} {vs : List Value} {xs : List Int} {n : Nat} (h : (a, tupO (v :: vs)) ∈ l) (k : isStrV v = false) (r : FndAll l (v :: vs) xs n) : Fnd l (.ref a) xs (n + 1) := by
  obtain ⟨ys, k', w, hk, hy⟩ := r
  exact ⟨ys, k' + 1, .seq (.inl h) k w, by omega, hy⟩
theorem Fnd.node {l : Led} {a : Addr} {x : Str} {t : Tok} {vs : List Value} {own xs : List Int} {n : Nat} (h : (a, tupO (.str x t :: vs)) ∈ l) (k : Own l x vs own) (r : FndAll l vs xs n) : Fnd l (.ref a) (own ++ xs) (n + 1) := by
  obtain ⟨ys, k', w, hk, hy⟩ := r
  exact ⟨own ++ ys, k' + 1, .node (.inl h) k w, by omega, fun x => by rw [List.mem_append, List.mem_append, hy]⟩
theorem Fnd.plain {l : Led} {a : Addr} {x : Str} {t : Tok} {vs : List Value} {xs : List Int} {n : Nat} (h : (a, tupO (.str x t :: vs)) ∈ l) (k : x ∈ plainHeads) (r : FndAll l vs xs n) : Fnd l (.ref a) xs (n + 1) := Fnd.node (own := []) h (.plain k) r
theorem Fnd.le {l : Led} {v : Value} {xs : List Int} {n m : Nat} (h : Fnd l v xs n) (k : n ≤ m) : Fnd l v xs m := let ⟨ys, j, w, a, b⟩ := h; ⟨ys, j, w, Nat.le_trans a k, b⟩
theorem Fnd.set {l : Led} {v : Value} {xs ys : List Int} {n : Nat} (h : Fnd l v xs n) (k : ∀ x, x ∈ xs ↔ x ∈ ys) : Fnd l v ys n := let ⟨zs, j, w, a, b⟩ := h; ⟨zs, j, w, a, fun x => (b x).trans (k x)⟩
theorem FndAll.one {l : Led} {v : Value} {xs : List Int} {n : Nat} (h : Fnd l v xs n) : FndAll l [v] xs n := by
  have := FndAll.cons h FndAll.nil
  rwa [List.append_nil] at this
theorem FndAll.skip {l : Led} {v : Value} {vs : List Value} {ys : List Int} {k : Nat} (h : plainV v = true) (r : FndAll l vs ys k) : FndAll l (v :: vs) ys k := by
  have := FndAll.cons (Fnd.flat (l := l) h) r
  rwa [List.nil_append, Nat.zero_add] at this
theorem kInt {l : Led} {a : Addr} {t u : Tok} (k : KTup a [.str (Str.ofString "int") t, .str (Str.ofString "int") u]) : Walk l (.ref a) [] 1 :=
  .node (own := []) (xs := []) (n := 0) (.inr k) (.plain (by decide +kernel)) (.cons (xs := []) (n := 0) (.flat rfl) .nil)
theorem kPair {l : Led} : Walk l (.ref 237) [] 6 :=
  .node (own := []) (xs := []) (n := 5) (.inr .k237) (.plain (by decide +kernel)) (.cons (xs := []) (n := 5) (k := 0)
    (.seq (n := 4) (.inr .k236) rfl (.cons (xs := []) (ys := []) (n := 2) (k := 2)
      (.node (own := []) (xs := []) (n := 1) (.inr .k232) (.plain (by decide +kernel)) (.cons (xs := []) (n := 1) (k := 0) (kInt .k231) (.cons (xs := []) (n := 0) (.flat rfl) .nil)))
      (.cons (xs := []) (n := 2) (k := 0)
        (.node (own := []) (xs := []) (n := 1) (.inr .k235) (.plain (by decide +kernel)) (.cons (xs := []) (n := 1) (k := 0) (.type (.inr .k234) (.array .k233)) (.cons (xs := []) (n := 0) (.flat rfl) .nil))) .nil))) .nil)
theorem TyIn.fnd {l : Led} {v : Value} {ty : Ty} (h : TyIn l v ty) : Fnd l v [] 6 := by
  have go : ∀ {v : Value} {n : Nat}, Walk l v [] n → n ≤ 6 → Fnd l v [] 6 := fun w k => ⟨[], _, w, k, fun _ => Iff.rfl⟩
  cases h
  case i228 => exact go (kInt .k228) (by decide)
  case i229 => exact go (kInt .k229) (by decide)
  case i231 => exact go (kInt .k231) (by decide)
  case i233 => exact go (kInt .k233) (by decide)
  case a230 => exact go (.type (.inr .k230) (.array .k229)) (by decide)
  case a234 => exact go (.type (.inr .k234) (.array .k233)) (by decide)
  case pair => exact go kPair (by decide)
  case named => exact go (.type (.inr .k238) .named) (by decide)
  case ptr m => exact go (.type (.inl m) .ptr) (by decide)
  case slice m => exact go (.type (.inl m) (.slice .k237)) (by decide)
  case arr2 m => exact go (.type (.inl m) (.array .k237)) (by decide)
theorem FlatIn.fnd {l : Led} {v : Value} (h : FlatIn l v) : Fnd l v [] 7 := by
  cases h
  case const m => exact (Fnd.plain m (by decide +kernel) (FndAll.cons ((TyIn.i228 (l := l)).fnd) (FndAll.skip rfl (FndAll.skip rfl FndAll.nil)))).le (by decide)
  case loc m T => exact (Fnd.plain m (by decide +kernel) (FndAll.cons T.fnd (FndAll.skip rfl (FndAll.skip rfl FndAll.nil)))).le (by decide)
theorem PlaceIn.fnd {l : Led} {v : Value} {ty : Ty} {r : Option Nat} {b : Bool} {d : Nat} (h : PlaceIn l v ty r b d) : Fnd l v [] (7 + 14 * d) := by
  induction h with
  | loc i m T => exact (Fnd.plain m (by decide +kernel) (FndAll.cons T.fnd (FndAll.skip rfl (FndAll.skip rfl FndAll.nil)))).le (by omega)
  | field m T _ ih => exact (Fnd.plain m (by decide +kernel) (FndAll.cons T.fnd (FndAll.skip rfl (FndAll.cons ih (FndAll.skip rfl FndAll.nil))))).le (by omega)
  | index m T _ f ih => exact (Fnd.plain m (by decide +kernel) (FndAll.cons T.fnd (FndAll.skip rfl (FndAll.cons ih (FndAll.cons f.fnd FndAll.nil))))).le (by omega)
  | deref m T _ ih => exact (Fnd.plain m (by decide +kernel) (FndAll.cons T.fnd (FndAll.skip rfl (FndAll.cons ih FndAll.nil)))).le (by omega)

end
theorem ln11 : True := by
  k_with_none
  k_with "eval Name" => (k_here; (with_reducible show wpAny _ _ (eval (PySem.Expr.Name _ _) (envOf _ _ _ _ _)) _ _ _); name_kind "globalImplicit"; k_dflt ((with_reducible refine' name_K ?k0Qz ?k1Qz ?k2Qz ?k3Qz ?_ ?aQz ?bQz ?cQz); (case k0Qz => with_reducible assumption); (case k1Qz => with_reducible assumption); (case k2Qz => k_asm); (case k3Qz => k_is); (case aQz => exact rfl); (case bQz => kernel_rfl!); (case cQz => decide +kernel); k_whole))
  k_with "eval Name" => (k_here; (with_reducible show wpAny _ _ (eval (PySem.Expr.Name _ _) (envOf _ _ _ _ _)) _ _ _); name_kind "globalImplicit"; name_is_builtin; k_dflt ((with_reducible refine' name_B ?k0Qz ?k1Qz ?k2Qz ?k3Qz ?k4Qz ?k5Qz ?_ ?aQz ?bQz ?cQz); (case k0Qz => with_reducible assumption); (case k1Qz => with_reducible assumption); (case k2Qz => k_asm); (case k3Qz => k_is); (case k4Qz => boot_fast); (case k5Qz => decide +kernel); (case aQz => exact rfl); (case bQz => kernel_rfl!); (case cQz => decide +kernel); k_whole))
  k_with "eval Name" => (k_here; (with_reducible show wpAny _ _ (eval (PySem.Expr.Name _ _) (envOf _ _ _ _ _)) _ _ _); name_kind "local"; k_dflt ((with_reducible refine' ld ?k1Qz ?k2Qz ?_ ?aQz ?bQz ?cQz); (case k1Qz => with_reducible assumption); (case aQz => exact rfl); (case bQz => kernel_rfl!); (case cQz => decide +kernel); (case k2Qz => exact rfl); k_whole))
  k_with "eval Name" => (k_here; (with_reducible show wpAny _ _ (eval (PySem.Expr.Name _ _) (envOfC _ _ _ _ _)) _ _ _); k_dflt first | (name_kind "local"; (with_reducible refine' nameC_L ?FQz ?vQz ?_ ?aQz ?bQz ?cQz); (case FQz => with_reducible assumption); (case aQz => exact rfl); (case bQz => kernel_rfl!); (case cQz => decide +kernel); (case vQz => first | exact rfl | assumption); k_whole) | (name_kind "cell"; (with_reducible refine' nameC_C ?NQz ?kQz ?mQz ?dQz ?_ ?aQz ?bQz ?cQz); (case aQz => exact rfl); (case bQz => kernel_rfl!); (case cQz => decide +kernel); (case NQz => with_reducible assumption); (case kQz => exact rfl); (case mQz => k_mem); (case dQz => k_asm); k_whole) | (name_kind "globalImplicit"; name_is_builtin; (with_reducible refine' nameC_B ?FQz ?XQz ?TQz ?eQz ?vQz ?nQz ?_ ?aQz ?bQz ?cQz); (case FQz => with_reducible assumption); (case XQz => with_reducible assumption); (case TQz => k_asm); (case aQz => exact rfl); (case bQz => kernel_rfl!); (case cQz => decide +kernel); (case eQz => k_is); (case vQz => boot_fast); (case nQz => decide +kernel); k_whole) | (name_kind "globalImplicit"; (with_reducible refine' nameC_K ?FQz ?XQz ?TQz ?eQz ?_ ?aQz ?bQz ?cQz); (case FQz => with_reducible assumption); (case XQz => with_reducible assumption); (case TQz => k_asm); (case aQz => exact rfl); (case bQz => kernel_rfl!); (case cQz => decide +kernel); (case eQz => k_is); k_whole))
  k_with "eval Name" => (k_here; (with_reducible show wpAny _ _ (eval (PySem.Expr.Name _ _) (compEnvC _ _ _ _)) _ _ _); k_dflt first | (name_kind "local"; (with_reducible refine' LCgL.ld_own ?NQz ?mQz ?CQz ?xQz ?_ ?aQz ?bQz ?cQz); (case NQz => with_reducible assumption); (case mQz => k_mem); (case CQz => with_reducible assumption); (case xQz => assumption); (case aQz => exact rfl); (case bQz => kernel_rfl!); (case cQz => decide +kernel); k_whole) | (name_kind "globalImplicit"; name_is_builtin; (with_reducible refine' LCgL.ld_built ?FQz ?XQz ?TQz ?eQz ?vQz ?nQz ?_ ?gQz ?hQz ?aQz ?bQz ?cQz); (case FQz => with_reducible assumption); (case XQz => with_reducible assumption); (case TQz => with_reducible assumption); (case gQz => exact rfl); (case hQz => exact rfl); (case aQz => exact rfl); (case bQz => kernel_rfl!); (case cQz => decide +kernel); (case eQz => k_is); (case vQz => boot_fast); (case nQz => decide +kernel); k_whole) | (name_kind "globalImplicit"; (with_reducible refine' LCgL.ld_global ?FQz ?XQz ?TQz ?eQz ?_ ?gQz ?aQz ?bQz ?cQz); (case FQz => with_reducible assumption); (case XQz => with_reducible assumption); (case TQz => with_reducible assumption); (case gQz => exact rfl); (case aQz => exact rfl); (case bQz => kernel_rfl!); (case cQz => decide +kernel); (case eQz => k_is); k_whole) | (name_kind "free"; (with_reducible refine' lcf_free ?NQz ?kQz ?mQz ?dQz ?_ ?aQz ?bQz ?cQz ?eQz); (case aQz => exact rfl); (case bQz => kernel_rfl!); (case cQz => decide +kernel); (case eQz => decide +kernel); (case NQz => with_reducible assumption); (case kQz => exact rfl); (case mQz => k_mem); (case dQz => k_asm); k_whole))
  k_with "newTuple" => (k_here; k_dflt ((with_reducible refine' kup_newTuple ?FQz ?NQz ?_ ?zQz); (case FQz => with_reducible assumption); (case NQz => with_reducible assumption); (case zQz => first | exact Nat.le_of_ble_eq_true rfl | kmk_size)); intro D'e5 h'e5 F'e5 N'e5 l1e5; (try k_sweep))
  k_with "newList" => (k_here; k_dflt ((with_reducible refine' newList_K ?FQz ?NQz ?_ ?zQz); (case FQz => with_reducible assumption); (case NQz => with_reducible assumption); (case zQz => first | exact Nat.le_of_ble_eq_true rfl | size_fits)); intro D'e6 h'e6 F'e6 N'e6 l1e6; (try k_sweep))
  k_with "And" => ((with_reducible show Frag.In _ _ ∧ _); refine' And.intro ?kQz ?_; (case kQz => k_dflt (first | with_reducible assumption | (refine' Frag.In.keeps ?xQz (Fr.keep ?fQz); (case fQz => with_reducible assumption); (case xQz => with_reducible assumption)) | k_in)); (try dsimp only [List.nil_append, List.cons_append]))
  k_with "execs cons" => (k_here; (try k_gentoks); (with_reducible refine' wpAny_execs_cons ?_); (try dsimp only); (try k_fold))
  k_with "ite" => (k_closed; first | (with_reducible refine' ite_tt ?_) | (with_reducible refine' ite_ff ?_) | ((with_reducible refine' ite_neg ?hQz ?_); (case hQz => decide +kernel)) | ((with_reducible refine' ite_pos ?hQz ?_); (case hQz => decide +kernel)))
  k_with "spliced" => k_dflt ((first | (with_reducible refine' args_cons (env := envOf _ _ _ _ _) ?_ ?heQz) | (with_reducible refine' args_cons (env := envOfC _ _ _ _ _) ?_ ?heQz)); (case heQz => exact rfl))
  k_with "eval Call" => k_dflt ((first | (with_reducible refine' Call_ (env := envOf _ _ _ _ _) ?_ ?heQz) | (with_reducible refine' Call_ (env := envOfC _ _ _ _ _) ?_ ?heQz)); (case heQz => exact rfl))
  k_with "exec Assign" => k_dflt ((first | (with_reducible refine' wpAny_Assign_Name (env := envOf _ _ _ _ _) ?_ ?heQz) | (with_reducible refine' wpAny_Assign_Name (env := envOfC _ _ _ _ _) ?_ ?heQz)); (case heQz => exact rfl); (try k_fold))
  k_with "callWith ref" => (k_here; k_dflt first | ((with_reducible refine' callWith_K ?k1Qz ?k2Qz ?_ ?heQz ?hpQz); (case k1Qz => with_reducible assumption); (case k2Qz => k_is); (case heQz => exact rfl); (case hpQz => exact rfl); k_whole) | ((with_reducible refine' callWith_K0 ?k1Qz ?k2Qz ?_); (case k1Qz => (first | with_reducible assumption | (refine' Frag.In.keeps ?xQz (Fr.keep ?fQz); (case fQz => with_reducible assumption); (case xQz => with_reducible assumption)) | k_in)); (case k2Qz => k_is); k_whole))
  k_with "storeName" => (k_here; k_dflt first | ((with_reducible refine' stN ?FQz ?NQz ?_ ?aQz ?bQz); (case FQz => with_reducible assumption); (case NQz => with_reducible assumption); (case aQz => exact rfl); (case bQz => kernel_rfl!); k_whole; intro h'e14 F'e14 N'e14; (try k_sweep)) | (name_kind "local"; (with_reducible refine' storeC_L ?FQz ?NQz ?_ ?aQz ?bQz); (case FQz => with_reducible assumption); (case NQz => with_reducible assumption); (case aQz => exact rfl); (case bQz => kernel_rfl!); k_whole; intro h'e14 F'e14 N'e14; (try k_sweep)))
  k_with "mine room" => first | exact Nat.le_of_ble_eq_true rfl | ((try simp only [recursionLimit]); (try dsimp only [Around.deeper, Around.in1, Around.mark, rnd]); first | exact room_le (by with_reducible assumption) rfl | omega) | fail "mine"
  k_with "mine enter" => (refine wpAny_call ?_; k_dflt ((with_reducible refine' code_def ?k1Qz ?k2Qz ?k3Qz ?k4Qz ?k5Qz ?kAQz ?kFQz ?kKQz ?k6Qz ?k7Qz ?k8Qz ?k9Qz ?kBQz ?_ ?c2Qz ?c3Qz ?c4Qz ?c5Qz); (case kAQz => exact rfl); (case kFQz => assumption); (case kKQz => assumption); (case k1Qz => k_asm); (case k2Qz => k_asm); (case k3Qz => k_asm); (case k4Qz => k_asm); (case k5Qz => k_asm); (case k6Qz => k_is); (case k7Qz => k_is); (case k8Qz => ktr_room); (case k9Qz => exact BindsTo.of_eq rfl); (case c5Qz => decide); (case kBQz => exact locs rfl); (case c2Qz => exact rfl); (case c3Qz => exact rfl); (case c4Qz => exact rfl); k_whole; intro g'e16 L'e16 h'e16 FG'e16 F'e16 N'e16 B'e16 X'e16 T'e16; (try dsimp only); (try k_fold)))
  k_with "mine pick" => first | exact Pick.head | (refine' Pick.tail ?pkQz; (case pkQz => k_extra "mine pick")) | fail "mine"
  k_with "mine mem" => first | with_reducible assumption | exact mem_hd | (refine' mem_tl ?pmQz; (case pmQz => k_extra "mine mem")) | (refine' Sub.mem ?pgQz ?pmQz; (case pgQz => with_reducible assumption); (case pmQz => k_extra "mine mem")) | (refine' Grow.mem ?pgQz ?pmQz; (case pgQz => with_reducible assumption); (case pmQz => k_extra "mine mem")) | fail "mine"
  k_with "mine at" => first | (with_reducible exact at_hd) | ((with_reducible refine' at_tl ?pmQz); (case pmQz => k_extra "mine at")) | fail "mine"
  k_with "mine pj" => first | with_reducible assumption | exact pj_l (by with_reducible assumption) | exact pj_l (pj_r (by with_reducible assumption)) | exact pj_r (by with_reducible assumption) | exact pj_l (pj_2 (by with_reducible assumption)) | exact pj_2 (by with_reducible assumption) | exact pj_l (pj_2 (pj_r (by with_reducible assumption))) | exact pj_2 (pj_r (by with_reducible assumption)) | exact pj_l (pj_4 (by with_reducible assumption)) | exact pj_4 (by with_reducible assumption) | exact pj_l (pj_4 (pj_r (by with_reducible assumption))) | exact pj_4 (pj_r (by with_reducible assumption)) | exact pj_l (pj_4 (pj_2 (by with_reducible assumption))) | exact pj_4 (pj_2 (by with_reducible assumption)) | exact pj_l (pj_4 (pj_2 (pj_r (by with_reducible assumption)))) | exact pj_4 (pj_2 (pj_r (by with_reducible assumption))) | exact pj_l (pj_8 (by with_reducible assumption)) | exact pj_8 (by with_reducible assumption) | exact pj_l (pj_8 (pj_r (by with_reducible assumption))) | exact pj_8 (pj_r (by with_reducible assumption)) | exact pj_l (pj_8 (pj_2 (by with_reducible assumption))) | exact pj_8 (pj_2 (by with_reducible assumption)) | exact pj_l (pj_8 (pj_2 (pj_r (by with_reducible assumption)))) | exact pj_8 (pj_2 (pj_r (by with_reducible assumption))) | exact pj_l (pj_8 (pj_4 (by with_reducible assumption))) | exact pj_8 (pj_4 (by with_reducible assumption)) | exact pj_l (pj_8 (pj_4 (pj_r (by with_reducible assumption)))) | exact pj_8 (pj_4 (pj_r (by with_reducible assumption))) | exact pj_l (pj_8 (pj_4 (pj_2 (by with_reducible assumption)))) | exact pj_8 (pj_4 (pj_2 (by with_reducible assumption))) | exact pj_l (pj_8 (pj_4 (pj_2 (pj_r (by with_reducible assumption))))) | exact pj_8 (pj_4 (pj_2 (pj_r (by with_reducible assumption)))) | exact pj_l (pj_16 (by with_reducible assumption)) | exact pj_16 (by with_reducible assumption) | exact pj_l (pj_16 (pj_r (by with_reducible assumption))) | exact pj_16 (pj_r (by with_reducible assumption)) | exact pj_l (pj_16 (pj_2 (by with_reducible assumption))) | exact pj_16 (pj_2 (by with_reducible assumption)) | exact pj_l (pj_16 (pj_2 (pj_r (by with_reducible assumption)))) | exact pj_16 (pj_2 (pj_r (by with_reducible assumption))) | exact pj_l (pj_16 (pj_4 (by with_reducible assumption))) | exact pj_16 (pj_4 (by with_reducible assumption)) | exact pj_l (pj_16 (pj_4 (pj_r (by with_reducible assumption)))) | exact pj_16 (pj_4 (pj_r (by with_reducible assumption))) | exact pj_l (pj_16 (pj_4 (pj_2 (by with_reducible assumption)))) | exact pj_16 (pj_4 (pj_2 (by with_reducible assumption))) | exact pj_l (pj_16 (pj_4 (pj_2 (pj_r (by with_reducible assumption))))) | exact pj_16 (pj_4 (pj_2 (pj_r (by with_reducible assumption)))) | exact pj_l (pj_16 (pj_8 (by with_reducible assumption))) | exact pj_16 (pj_8 (by with_reducible assumption)) | exact pj_l (pj_16 (pj_8 (pj_r (by with_reducible assumption)))) | exact pj_16 (pj_8 (pj_r (by with_reducible assumption))) | exact pj_l (pj_16 (pj_8 (pj_2 (by with_reducible assumption)))) | exact pj_16 (pj_8 (pj_2 (by with_reducible assumption))) | exact pj_l (pj_16 (pj_8 (pj_2 (pj_r (by with_reducible assumption))))) | exact pj_16 (pj_8 (pj_2 (pj_r (by with_reducible assumption)))) | exact pj_l (pj_16 (pj_8 (pj_4 (by with_reducible assumption)))) | exact pj_16 (pj_8 (pj_4 (by with_reducible assumption))) | exact pj_l (pj_16 (pj_8 (pj_4 (pj_r (by with_reducible assumption))))) | exact pj_16 (pj_8 (pj_4 (pj_r (by with_reducible assumption)))) | exact pj_l (pj_16 (pj_8 (pj_4 (pj_2 (by with_reducible assumption))))) | exact pj_16 (pj_8 (pj_4 (pj_2 (by with_reducible assumption)))) | exact pj_l (pj_16 (pj_8 (pj_4 (pj_2 (pj_r (by with_reducible assumption)))))) | exact pj_16 (pj_8 (pj_4 (pj_2 (pj_r (by with_reducible assumption))))) | fail "mine"
  k_with "mine new" => first | ((with_reducible refine' ne_new ?hQz ?mQz); (case hQz => with_reducible assumption); (case mQz => k_extra "mine at")) | ((with_reducible refine' ne_new' ?hQz ?mQz); (case hQz => with_reducible assumption); (case mQz => k_extra "mine at")) | ((with_reducible refine' Nat.ne_of_lt ?hQz); (case hQz => k_extra "mine pj")) | ((with_reducible refine' Nat.ne_of_gt ?hQz); (case hQz => k_extra "mine pj")) | fail "mine"
  k_with "mine ne" => first | assumption | (refine Ne.symm ?_; assumption) | k_extra "mine new" | (refine neN ?_; (try dsimp only); first | k_extra "mine new" | omega) | fail "mine"
  k_with "mine off" => first | with_reducible assumption | exact Off.nil | (refine Off.tup ?_; k_extra "mine off") | (refine Off.ne ?_ ?_; (k_extra "mine ne"); (k_extra "mine off")) | fail "mine"
  k_with "mine sub" => first | with_reducible assumption | exact Sub.refl | (refine Sub.tl ?_; k_extra "mine sub") | (refine' Sub.gr ?pgQz ?pkQz; (case pgQz => with_reducible assumption); (case pkQz => k_extra "mine sub")) | fail "mine"
  k_with "call ref" => (k_here; (with_reducible show wpAny _ _ (call (Value.ref 220) [Value.ref _, Value.int _ _]) _ _ _); k_dflt ((with_reducible refine' take_use ?k1Qz ?k2Qz ?k3Qz ?k4Qz ?k5Qz ?a3Qz ?hfQz ?hkQz ?a1Qz ?a2Qz ?a4Qz ?hsQz ?hoQz ?htQz ?offQz ?_); (case k1Qz => k_asm); (case k2Qz => k_asm); (case k3Qz => k_asm); (case k4Qz => k_asm); (case k5Qz => k_asm); (case a3Qz => exact rfl); (case hfQz => exact rfl); (case hkQz => exact rfl); (case a1Qz => exact rfl); (case a2Qz => k_extra "mine room"); (case a4Qz => k_extra "mine room"); (case hoQz => assumption); (case hsQz => k_extra "mine pick"); (case htQz => exact ⟨by decide, by decide⟩); (case offQz => k_extra "mine off")); intro d'e34 td'e34 o'e34 h'e34 tk'e34 hd0e34 hd1e34 ho'e34 F'e34 N'e34; (try dsimp only); (try k_sweep); (try k_fold))
  k_with "call ref" => (k_here; (with_reducible show wpAny _ _ (call (Value.ref 245) _) _ _ _); (k_dflt (show wpAny _ _ (call (Value.ref 245) []) _ _ _)); k_dflt ((first | with_reducible refine' types_use ?k1Qz ?k2Qz ?k3Qz ?k4Qz ?k5Qz ?a3Qz ?hfQz ?hkQz ?a1Qz ?a2Qz ?a4Qz ?hsQz ?hoQz ?offQz ?_ | refine' types_use ?k1Qz ?k2Qz ?k3Qz ?k4Qz ?k5Qz ?a3Qz ?hfQz ?hkQz ?a1Qz ?a2Qz ?a4Qz ?hsQz ?hoQz ?offQz ?_); (case k1Qz => k_asm); (case k2Qz => k_asm); (case k3Qz => k_asm); (case k4Qz => k_asm); (case k5Qz => k_asm); (case a3Qz => exact rfl); (case hfQz => first | exact rfl | assumption); (case hkQz => first | exact rfl | assumption); (case a1Qz => exact rfl); (case a2Qz => k_extra "mine room"); (case a4Qz => k_extra "mine room"); (case hoQz => assumption); (case hsQz => k_extra "mine pick"); (case offQz => k_extra "mine off")); intro l'e51 vs'e51 n'e51 fr'e51 h'e51 tk'e51 hg'e51 hoff'e51 hne'e51 hT'e51 F'e51 N'e51; (try dsimp only); (try k_sweep); (try k_fold))
  k_with "subscriptTail" => (k_here; (with_reducible show wpAny _ _ (subscriptTail _ _ (Value.ref _) (Value.int _ _)) _ _ _); (with_reducible rename TypesAre _ _ => hT9e36); k_dflt ((first | with_reducible refine' types_item ?k1Qz ?k2Qz hT9e36 ?k3Qz ?k4Qz ?_ ?k6Qz | refine' types_item ?k1Qz ?k2Qz hT9e36 ?k3Qz ?k4Qz ?_ ?k6Qz); (case k1Qz => k_asm); (case k2Qz => k_mem); (case k3Qz => first | assumption | decide); (case k4Qz => first | assumption | decide); (case k6Qz => with_unfolding_all rfl)); intro v'e36 hv'e36; (try dsimp only); (try k_fold))
  k_with "subscriptTail Name Constant ref int" => (k_here; (with_reducible show wpAny _ _ (subscriptTail _ _ (Value.ref _) (Value.int _ _)) _ _ _); (with_reducible rename TypesAre _ _ => hT9e37); k_dflt ((first | with_reducible refine' types_item ?k1Qz ?k2Qz hT9e37 ?k3Qz ?k4Qz ?_ ?k6Qz | refine' types_item ?k1Qz ?k2Qz hT9e37 ?k3Qz ?k4Qz ?_ ?k6Qz); (case k1Qz => k_asm); (case k2Qz => k_mem); (case k3Qz => first | assumption | decide); (case k4Qz => first | assumption | decide); (case k6Qz => with_unfolding_all rfl)); intro v'e37 hv'e37; (try dsimp only); (try k_fold))
  k_with "call ref" => (k_here; (with_reducible show wpAny _ _ (call (Value.ref 252) [Value.int _ _]) _ _ _); k_dflt ((first | with_reducible refine' local_use ?k1Qz ?k2Qz ?k3Qz ?k4Qz ?k5Qz ?a3Qz ?hfQz ?hkQz ?a1Qz ?a2Qz ?a4Qz ?hsQz ?hoQz ?offQz ?hnQz ?hn2Qz ?_ | refine' local_use ?k1Qz ?k2Qz ?k3Qz ?k4Qz ?k5Qz ?a3Qz ?hfQz ?hkQz ?a1Qz ?a2Qz ?a4Qz ?hsQz ?hoQz ?offQz ?hnQz ?hn2Qz ?_); (case k1Qz => k_asm); (case k2Qz => k_asm); (case k3Qz => k_asm); (case k4Qz => k_asm); (case k5Qz => k_asm); (case a3Qz => exact rfl); (case hfQz => first | exact rfl | assumption); (case hkQz => first | exact rfl | assumption); (case a1Qz => exact rfl); (case a2Qz => k_extra "mine room"); (case a4Qz => k_extra "mine room"); (case hoQz => assumption); (case hsQz => k_extra "mine pick"); (case offQz => k_extra "mine off"); (case hnQz => first | assumption | decide); (case hn2Qz => first | assumption | decide)); intro v'e52 fr'e52 h'e52 tk'e52 hg'e52 hoff'e52 hP'e52 hF'e52 F'e52 N'e52; (try dsimp only); (try k_sweep); (try k_fold))
  k_with "mine subt" => first | exact SubT.refl | with_reducible assumption | (refine' SubT.tl ?pkQz; (case pkQz => k_extra "mine subt")) | (refine' SubT.gr ?pgQz ?pkQz; (case pgQz => with_reducible assumption); (case pkQz => k_extra "mine subt")) | (refine' SubT.sb ?pgQz ?pkQz; (case pgQz => with_reducible assumption); (case pkQz => k_extra "mine subt")) | fail "mine"
  k_with "mine rel" => first | with_reducible assumption | (refine' PlaceIn.up ?phQz ?psQz; (case phQz => with_reducible assumption); (case psQz => k_extra "mine subt")) | (refine' TyIn.up ?phQz ?psQz; (case phQz => with_reducible assumption); (case psQz => k_extra "mine subt")) | (refine' FlatIn.up ?phQz ?psQz; (case phQz => with_reducible assumption); (case psQz => k_extra "mine subt")) | fail "mine"
  k_with "compareOp Eq" => (k_here; (with_reducible show wpAny _ _ (compareOp CmpOp.Eq _ (Value.ref 238)) _ _ _); k_dflt ((first | with_reducible refine' ty_eq ?FQz ?XQz ?NQz ?TQz ?sbQz ?huQz ?_ | refine' ty_eq ?FQz ?XQz ?NQz ?TQz ?sbQz ?huQz ?_); (case FQz => k_asm); (case XQz => k_asm); (case NQz => k_asm); (case TQz => assumption); (case sbQz => k_extra "mine subt"); (case huQz => ke_room)); (rename TyIn _ _ _ => hT9e55); (cases hT9e55); all_goals (try dsimp only [Ty.isNamed]))
  k_with "subscriptTail Subscript Name Constant Name ref int" => (k_here; (with_reducible show wpAny _ _ (subscriptTail _ _ (Value.ref 236) (Value.int _ _)) _ _ _); (with_reducible rename _ < (2 : Int) => hB9e42); (with_reducible rename (0 : Int) ≤ _ => hA9e42); (rcases two_of hA9e42 hB9e42 with e9e42 | e9e42 <;> subst e9e42))
  k_with "subscriptTail" => (k_here; (with_reducible show wpAny _ _ (subscriptTail _ _ (Value.ref _) (Value.int _ _)) _ _ _); k_dflt ((first | with_reducible refine' tup_item ?k1Qz ?k2Qz ?k3Qz ?k4Qz ?k5Qz ?k6Qz ?_ ?k7Qz | refine' tup_item ?k1Qz ?k2Qz ?k3Qz ?k4Qz ?k5Qz ?k6Qz ?_ ?k7Qz); (case k1Qz => k_asm); (case k2Qz => k_extra "mine mem"); (case k3Qz => decide); (case k4Qz => decide); (case k5Qz => exact rfl); (case k6Qz => exact rfl); (case k7Qz => with_unfolding_all rfl)); (try dsimp only); (try k_fold))
  k_with "subscriptTail Name Constant ref int" => (k_here; (with_reducible show wpAny _ _ (subscriptTail _ _ (Value.ref _) (Value.int _ _)) _ _ _); k_dflt ((first | with_reducible refine' tup_item ?k1Qz ?k2Qz ?k3Qz ?k4Qz ?k5Qz ?k6Qz ?_ ?k7Qz | refine' tup_item ?k1Qz ?k2Qz ?k3Qz ?k4Qz ?k5Qz ?k6Qz ?_ ?k7Qz); (case k1Qz => k_asm); (case k2Qz => k_extra "mine mem"); (case k3Qz => decide); (case k4Qz => decide); (case k5Qz => exact rfl); (case k6Qz => exact rfl); (case k7Qz => with_unfolding_all rfl)); (try dsimp only); (try k_fold))
  k_with "subscriptTail" => (k_here; (with_reducible show wpAny _ _ (subscriptTail _ _ (Value.ref _) (Value.int _ _)) _ _ _); k_dflt ((first | with_reducible refine' topTup_K ?k1Qz ?k2Qz ?k3Qz ?kaQz ?kbQz ?kcQz ?kdQz ?_ ?k7Qz | refine' topTup_K ?k1Qz ?k2Qz ?k3Qz ?kaQz ?kbQz ?kcQz ?kdQz ?_ ?k7Qz); (case k2Qz => k_asm); (case k3Qz => k_is); (case k1Qz => k_asm); (case kaQz => decide); (case kbQz => decide); (case kcQz => exact rfl); (case kdQz => exact rfl); (case k7Qz => with_unfolding_all rfl)); (try dsimp only); (try k_fold))
  k_with "subscriptTail Name Constant ref int" => (k_here; (with_reducible show wpAny _ _ (subscriptTail _ _ (Value.ref _) (Value.int _ _)) _ _ _); k_dflt ((first | with_reducible refine' topTup_K ?k1Qz ?k2Qz ?k3Qz ?kaQz ?kbQz ?kcQz ?kdQz ?_ ?k7Qz | refine' topTup_K ?k1Qz ?k2Qz ?k3Qz ?kaQz ?kbQz ?kcQz ?kdQz ?_ ?k7Qz); (case k2Qz => k_asm); (case k3Qz => k_is); (case k1Qz => k_asm); (case kaQz => decide); (case kbQz => decide); (case kcQz => exact rfl); (case kdQz => exact rfl); (case k7Qz => with_unfolding_all rfl)); (try dsimp only); (try k_fold))
  k_with "subscriptTail Name Call ref int" => (k_here; (with_reducible show wpAny _ _ (subscriptTail _ _ (Value.ref _) (Value.int _ _)) _ _ _); k_dflt ((first | with_reducible refine' two_item ?k1Qz ?k2Qz ?ksQz ?koQz ?k3Qz ?k4Qz ?kxQz ?kyQz ?_ ?k7Qz | refine' two_item ?k1Qz ?k2Qz ?ksQz ?koQz ?k3Qz ?k4Qz ?kxQz ?kyQz ?_ ?k7Qz); (case k1Qz => k_asm); (case k2Qz => k_extra "mine mem"); (case koQz => assumption); (case ksQz => k_extra "mine pick"); (case k3Qz => assumption); (case k4Qz => assumption); (case kxQz => exact FlatIn.const (by k_extra "mine mem")); (case kyQz => k_extra "mine rel"); (case k7Qz => with_unfolding_all rfl)); intro v'e58 hF'e58; (try dsimp only); (try k_fold))
  exact True.intro
--PART A10Value
section
local macro_rules | `(tactic| k_all) => `(tactic| assumption)
noncomputable def kindS : Ty → String
  | .int => "int"
  | .arr => "array"
  | .pair => "struct"
  | .named => "array"
  | .ptr => "ptr"
  | .slice => "slice"
  | .arr2 => "array"
theorem kind5 (ty : Ty) : (kindS ty = "int" ∧ ty.isArr = false) ∨ (kindS ty = "array" ∧ ty.isArr = true) ∨ (kindS ty = "struct" ∧ ty.isArr = false) ∨ (kindS ty = "ptr" ∧ ty.isArr = false) ∨ (kindS ty = "slice" ∧ ty.isArr = false) := by
  cases ty
  · exact .inl ⟨rfl, rfl⟩
  · exact .inr (.inl ⟨rfl, rfl⟩)
  · exact .inr (.inr (.inl ⟨rfl, rfl⟩))
  · exact .inr (.inl ⟨rfl, rfl⟩)
  · exact .inr (.inr (.inr (.inl ⟨rfl, rfl⟩)))
  · exact .inr (.inr (.inr (.inr ⟨rfl, rfl⟩)))
  · exact .inr (.inl ⟨rfl, rfl⟩)
noncomputable def kiPre (g : Led × Value × Ty) (news : Led) (vs : List Value) : Prop := news = g.1 ∧ vs = [g.2.1] ∧ TyIn g.1 g.2.1 g.2.2
noncomputable def kiPost (g : Led × Value × Ty) (news : Led) (v : Value) : Prop := news = g.1 ∧ ∃ t, v = .str (Str.ofString (kindS g.2.2)) t
set_option maxRecDepth 100000 in
set_option maxHeartbeats 8000000 in
theorem kind_con (w : World) : Con w 266 570 7700 kiPre kiPost := by
  unfold Con
  k_fill
  rintro ⟨fr, tv, ty⟩ mean mg mb env outer gd A₀ base h₀ L m news s vs Q E B F X N T hf hk ⟨rfl, rfl, hT⟩ hret
  try dsimp only at *
  k_extra "mine enter"
  k_steps
  all_goals (refine' hret _ _ _ _ ?e1 ?e2 ?_; (case e1 => k_asm); (case e2 => k_asm))
  all_goals exact ⟨rfl, _, rfl⟩
theorem kind_use {w : World} {fr news : Led} {tv : Value} {ty : Ty}
    {mean : ExcName → Option Value} {mg mb : Str → Option Value} {A : Around} {env : Env} {outer : List Env} {A₀ : Around} {base h₀ : Heap} {L : Addr} {m : Str → Option Value} {s : Shared} {Q E : Value → Shared → Prop}
    (B : Below A₀ base outer h₀) (F : Fr h₀ L s.heap m) (X : (hd.heap_39 w.params).In h₀) (N : News h₀ L s.heap news) (T : Top hd.view_39 (looseW hd.view_39 [Str.ofString "ChanError"]) mean mg mb h₀)
    (a3 : A.frames = some (env :: outer)) (hf : env.frame = some L) (hk : env.scope.kind = .function) (a1 : A.handled = none) (a2 : A.depth ≤ 570) (a4 : A.units ≤ 7700)
    (hT : TyIn fr tv ty) (sb : SubT fr news)
    (k : ∀ t h' tk', Fr h₀ L h' m → News h₀ L h' news → Q (.str (Str.ofString (kindS ty)) t) { s with heap := h', toks := tk' }) :
    wpAny (model PySem.Challenge.rw_on0017_01.row.prog w) A (call (.ref 266) [tv]) Q E s :=
  (kind_con w).use ⟨news, tv, ty⟩ B F X N T hf hk a1 a2 a3 a4 (fun _ m => m) ⟨rfl, rfl, hT.mono sb⟩ (fun r news' h' tk' F' N' hp => by
    obtain ⟨rfl, t, rfl⟩ := hp
    exact k _ _ _ F' N')
theorem place_use {w : World} {src due : Addr} {o od : Obj} {r₁ fr : Led}
    {mean : ExcName → Option Value} {mg mb : Str → Option Value} {A : Around} {env : Env} {outer : List Env} {A₀ : Around} {base h₀ : Heap} {L : Addr} {m : Str → Option Value} {news : Led} {s : Shared} {Q E : Value → Shared → Prop}
    (B : Below A₀ base outer h₀) (F : Fr h₀ L s.heap m) (X : (hd.heap_39 w.params).In h₀) (N : News h₀ L s.heap news) (T : Top hd.view_39 (looseW hd.view_39 [Str.ofString "ChanError"]) mean mg mb h₀)
    (a3 : A.frames = some (env :: outer)) (hf : env.frame = some L) (hk : env.scope.kind = .function) (a1 : A.handled = none) (a2 : A.depth ≤ 590) (a4 : A.units ≤ 7900)
    (hne : @Ne Nat due src) (ho : SrcOk o) (hs : Pick (src, o) news r₁) (hs2 : Pick (due, od) r₁ fr) (hd : od.cls = .type "list") (hoff : Off src fr) (hoff2 : Off due fr)
    (k : ∀ o' a p rv ty r b d fr' h' tk', SrcOk o' → Grow fr fr' → Off src fr' → Off due fr' → (a, tupO [.ref p, rv, .bool b]) ∈ fr' → PlaceIn fr' (.ref p) ty r b d → RootV r rv → d ≤ 3 → Fr h₀ L h' m → News h₀ L h' ((src, o') :: (due, od) :: fr') → Q (.ref a) { s with heap := h', toks := tk' }) :
    wpAny (model PySem.Challenge.rw_on0017_01.row.prog w) A (call (.ref 259) [.ref src]) Q E s := by
  have hd' : od.cls ≠ .type "tuple" := by rw [hd]; exact fun e => absurd (Value.type.inj e) (by decide)
  have N1 : News h₀ L s.heap ((src, o) :: (due, od) :: fr) := fun p m => N p (hs.sub p (by
    rcases List.mem_cons.mp m with rfl | m
    · exact .head _
    · exact .tail _ (hs2.sub p m)))
  refine (place_con w).use ⟨src, o, (due, od) :: fr⟩ B F X N1 T hf hk a1 a2 a3 a4 (fun _ m => m) ⟨rfl, rfl, ho, hoff.ne hne⟩ (fun r news' h' tk' F' N' hp => ?_)
  obtain ⟨o', fr', a, pv, rv, ty, r, b, d, rfl, rfl, ho', g, hm, hP, hR, h3⟩ := hp
  obtain ⟨fr₁, g₁, st, sb⟩ := g.keep hd' hoff2 (fun p m => N1 p (.tail _ m)) (fun p m => N' p (.tail _ m))
  obtain ⟨p, rfl⟩ := hP.isRef
  refine k o' a p rv ty r b d fr₁ _ _ ho' g₁ (hoff.grow g₁) (hoff2.grow g₁) (st.tup hm) (hP.mono st) hR h3 F' fun q m => N' q ?_
  rcases List.mem_cons.mp m with rfl | m
  · exact .head _
  · exact .tail _ (sb q m)
theorem local_use2 {w : World} {src due : Addr} {o od : Obj} {r₁ fr : Led} {n : Int} {tt : Tok}
    {mean : ExcName → Option Value} {mg mb : Str → Option Value} {A : Around} {env : Env} {outer : List Env} {A₀ : Around} {base h₀ : Heap} {L : Addr} {m : Str → Option Value} {news : Led} {s : Shared} {Q E : Value → Shared → Prop}
    (B : Below A₀ base outer h₀) (F : Fr h₀ L s.heap m) (X : (hd.heap_39 w.params).In h₀) (N : News h₀ L s.heap news) (T : Top hd.view_39 (looseW hd.view_39 [Str.ofString "ChanError"]) mean mg mb h₀)
    (a3 : A.frames = some (env :: outer)) (hf : env.frame = some L) (hk : env.scope.kind = .function) (a1 : A.handled = none) (a2 : A.depth ≤ 598) (a4 : A.units ≤ 7990)
    (hne : @Ne Nat due src) (ho : SrcOk o) (hs : Pick (src, o) news r₁) (hs2 : Pick (due, od) r₁ fr) (hd : od.cls = .type "list") (hoff : Off src fr) (hoff2 : Off due fr) (hn0 : 0 ≤ n) (hn : n < 8)
    (k : ∀ v fr' h' tk', Grow fr fr' → Off src fr' → Off due fr' → PlaceIn fr' v (tyOf n.toNat) (some n.toNat) true 0 → FlatIn fr' v → Fr h₀ L h' m → News h₀ L h' ((src, o) :: (due, od) :: fr') → Q v { s with heap := h', toks := tk' }) :
    wpAny (model PySem.Challenge.rw_on0017_01.row.prog w) A (call (.ref 252) [.int n tt]) Q E s := by
  have hd' : od.cls ≠ .type "tuple" := by rw [hd]; exact fun e => absurd (Value.type.inj e) (by decide)
  have N1 : News h₀ L s.heap ((src, o) :: (due, od) :: fr) := fun p m => N p (hs.sub p (by
    rcases List.mem_cons.mp m with rfl | m
    · exact .head _
    · exact .tail _ (hs2.sub p m)))
  refine (local_con w).use ⟨src, o, (due, od) :: fr, n, tt⟩ B F X N1 T hf hk a1 a2 a3 a4 (fun _ m => m) ⟨rfl, rfl, ho, hoff.ne hne, hn0, hn⟩ (fun r news' h' tk' F' N' hp => ?_)
  obtain ⟨fr', rfl, g, hP, hF⟩ := hp
  obtain ⟨fr₁, g₁, st, sb⟩ := g.keep hd' hoff2 (fun p m => N1 p (.tail _ m)) (fun p m => N' p (.tail _ m))
  refine k _ fr₁ _ _ g₁ (hoff.grow g₁) (hoff2.grow g₁) (hP.mono st) (hF.mono st) F' fun q m => N' q ?_
  rcases List.mem_cons.mp m with rfl | m
  · exact .head _
  · exact .tail _ (sb q m)
theorem place_ty {prog : Program} {w : World} {A : Around} {E : Value → Shared → Prop} {s : Shared} {Q : Value → Shared → Prop} {h₀ : Heap} {L : Addr} {fr news : Led} {value slice : Expr} {p : Addr} {ty : Ty} {r : Option Nat} {b : Bool} {d : Nat} {u : Tok}
    (N : News h₀ L s.heap news) (hP : PlaceIn fr (.ref p) ty r b d) (st : SubT fr news) (h : ∀ tv, TyIn fr tv ty → Q tv s)
    (hs : subscripted slice false (.ref p) (.int 1 u) = operate [.ref p, .int 1 u] (getItem (.ref p) (.int 1 u)) := by with_unfolding_all rfl) :
    wpAny (model prog w) A (subscriptTail value slice (.ref p) (.int 1 u)) Q E s := by
  cases hP with
  | loc i m T => exact tup_item N (st.tup m) (by decide) (by decide) rfl rfl (h _ T) hs
  | field m T hP => exact tup_item N (st.tup m) (by decide) (by decide) rfl rfl (h _ T) hs
  | index m T hP f => exact tup_item N (st.tup m) (by decide) (by decide) rfl rfl (h _ T) hs
  | deref m T hP => exact tup_item N (st.tup m) (by decide) (by decide) rfl rfl (h _ T) hs
theorem ints_nil {vs : List Value} {l : List Int} (h : IntsAre vs l) : IntsAre vs (l ++ []) := by rwa [List.append_nil]
theorem ints_snoc {k : Int} {t : Tok} : ∀ {vs : List Value} {l : List Int}, IntsAre vs l → IntsAre (vs ++ [.int k t]) (l ++ [k])
  | _, _, .nil => .cons _ _ .nil
  | _, _, .cons n t r => .cons n t (ints_snoc r)
theorem ints_push {its : Array Value} {l : List Int} {k : Int} {t : Tok} (h : IntsAre its.toList l) : IntsAre (its.push (.int k t)).toList (l ++ [k]) := by
  rw [Array.toList_push]; exact ints_snoc h
theorem due_append {prog : Program} {w : World} {A : Around} {E : Value → Shared → Prop} {s : Shared} {Q : Value → Shared → Prop} {h₀ : Heap} {L : Addr} {m : Str → Option Value} {due : Addr} {its : Array Value} {n : Nat} {l : List Int} {fr news : Led} {k : Int} {t : Tok}
    (F : Fr h₀ L s.heap m) (N : News h₀ L s.heap news) (hs : Pick (due, listOf its n) news fr) (hi : IntsAre its.toList l) (hl : l.length ≤ 10000) (hoff : Off due fr)
    (h : ∀ h', IntsAre (its.push (.int k t)).toList (l ++ [k]) → Fr h₀ L h' m → News h₀ L h' ((due, listOf (its.push (.int k t)) (n + 1)) :: fr) → Q .none { s with heap := h' }) : wpAny (model prog w) A (call (.builtin "list.append") [.ref due, .int k t]) Q E s := by
  have N1 : News h₀ L s.heap ((due, listOf its n) :: fr) := fun p m => N p (hs.sub p m)
  have hc : (listOf its n).cls ≠ .type "tuple" := fun e => absurd (Value.type.inj e) (by decide)
  have hlen := hi.length
  exact append_K F N1 (.head (hoff.ok N1 hc)) (fun h' F' N' => h h' (ints_push hi) F' N') (by rw [sizeLine_eq, ← Array.length_toList]; omega)
section
variable {l : Led} {a c q : Addr} {t u x x' y y' z : Tok} {k : Int} {pv lv w : Value} {ty : Ty} {r : Option Nat} {b : Bool} {d : Nat}
theorem const_fnd (h : (c, tupO [.str (Str.ofString "const") x, .ref 228, .int 0 y, .int k z]) ∈ l) : Fnd l (.ref c) [] 7 := (FlatIn.const h).fnd
theorem val_place (hP : PlaceIn l pv ty r b d) (hd : d ≤ 3) : Fnd l pv [] 60 := hP.fnd.le (by omega)
theorem val_bin (m : (a, tupO [.str (Str.ofString "binary") t, .ref 228, .int 0 u, .str (Str.ofString "+") x', .ref c, lv]) ∈ l) (h : (c, tupO [.str (Str.ofString "const") x, .ref 228, .int 0 y, .int k z]) ∈ l) (f : FlatIn l lv) : Fnd l (.ref a) [] 60 :=
  (Fnd.plain m (by decide +kernel) (FndAll.cons ((TyIn.i228 (l := l)).fnd) (FndAll.skip rfl (FndAll.skip rfl (FndAll.cons (const_fnd h) (FndAll.cons f.fnd FndAll.nil)))))).le (by decide)
theorem val_addr (m : (a, tupO [.str (Str.ofString "address") t, .ref q, .int 0 u, pv]) ∈ l) (h : (q, tupO [.str (Str.ofString "ptr") x, w]) ∈ l) {j : Nat} (hP : PlaceIn l pv ty (some j) b d) (hd : d ≤ 3) : Fnd l (.ref a) [(j : Int)] 60 :=
  ((Fnd.node m (.address hP) (FndAll.cons (Fnd.type h .ptr) (FndAll.skip rfl (FndAll.cons hP.fnd FndAll.nil)))).le (by omega)).set (by simp [rootL])
theorem val_cut (m : (a, tupO [.str (Str.ofString "cut") t, .ref q, .int 0 u, pv, .none, .ref c, .none]) ∈ l) (h : (q, tupO [.str (Str.ofString "slice") x', .ref 228]) ∈ l) (hP : PlaceIn l pv ty r b d) (hd : d ≤ 3) (hc : (c, tupO [.str (Str.ofString "const") x, .ref 228, .int 0 y, .int k z]) ∈ l) :
    Fnd l (.ref a) (if ty.isArr then rootL r else []) 60 :=
  ((Fnd.node m (.cut hP) (FndAll.cons (Fnd.type h (.slice .k228)) (FndAll.skip rfl (FndAll.cons hP.fnd (FndAll.skip rfl (FndAll.cons (const_fnd hc) (FndAll.skip rfl FndAll.nil))))))).le (by omega)).set (by simp)
theorem val_cut1 (m : (a, tupO [.str (Str.ofString "cut") t, .ref q, .int 0 u, pv, .none, .ref c, .none]) ∈ l) (h : (q, tupO [.str (Str.ofString "slice") x', .ref 228]) ∈ l) {j : Nat} (hP : PlaceIn l pv ty (some j) b d) (hd : d ≤ 3) (hc : (c, tupO [.str (Str.ofString "const") x, .ref 228, .int 0 y, .int k z]) ∈ l) (ha : ty.isArr = true) :
    Fnd l (.ref a) [(j : Int)] 60 := (val_cut m h hP hd hc).set (by simp [ha, rootL])
theorem val_cut0 (m : (a, tupO [.str (Str.ofString "cut") t, .ref q, .int 0 u, pv, .none, .ref c, .none]) ∈ l) (h : (q, tupO [.str (Str.ofString "slice") x', .ref 228]) ∈ l) (hP : PlaceIn l pv ty r b d) (hd : d ≤ 3) (hc : (c, tupO [.str (Str.ofString "const") x, .ref 228, .int 0 y, .int k z]) ∈ l) (ha : ty.isArr = false ∨ r = none) :
    Fnd l (.ref a) [] 60 := (val_cut m h hP hd hc).set (by rcases ha with e | e <;> simp [e, rootL])
end
theorem six_of {d : Int} (h0 : 0 ≤ d) (h : d < 6) : d = 0 ∨ d = 1 ∨ d = 2 ∨ d = 3 ∨ d = 4 ∨ d = 5 := by omega
theorem four_of {d : Int} (h0 : 0 ≤ d) (h : d < 6) : d = 0 ∨ d = 1 ∨ d = 2 ∨ (decide (d = 0) = false ∧ decide (d = 1) = false ∧ decide (d = 2) = false ∧ (d == 0) = false ∧ (d == 1) = false ∧ (d == 2) = false) := by
  rcases six_of h0 h with rfl | rfl | rfl | rfl | rfl | rfl
  · exact .inl rfl
  · exact .inr (.inl rfl)
  · exact .inr (.inr (.inl rfl))
  · exact .inr (.inr (.inr ⟨rfl, rfl, rfl, rfl, rfl, rfl⟩))
  · exact .inr (.inr (.inr ⟨rfl, rfl, rfl, rfl, rfl, rfl⟩))
  · exact .inr (.inr (.inr ⟨rfl, rfl, rfl, rfl, rfl, rfl⟩))
--#MACROS
theorem ln12 : True := by
  k_with "call ref" => (k_here; (with_reducible show wpAny _ _ (call (Value.ref 220) [Value.ref _, Value.int 6 _]) _ _ _); k_dflt ((first | with_reducible refine' take_use ?k1Qz ?k2Qz ?k3Qz ?k4Qz ?k5Qz ?a3Qz ?hfQz ?hkQz ?a1Qz ?a2Qz ?a4Qz ?hsQz ?hoQz ?htQz ?offQz ?_ | refine' take_use ?k1Qz ?k2Qz ?k3Qz ?k4Qz ?k5Qz ?a3Qz ?hfQz ?hkQz ?a1Qz ?a2Qz ?a4Qz ?hsQz ?hoQz ?htQz ?offQz ?_); (case k1Qz => k_asm); (case k2Qz => k_asm); (case k3Qz => k_asm); (case k4Qz => k_asm); (case k5Qz => k_asm); (case a3Qz => exact rfl); (case hfQz => first | exact rfl | assumption); (case hkQz => first | exact rfl | assumption); (case a1Qz => exact rfl); (case a2Qz => k_extra "mine room"); (case a4Qz => k_extra "mine room"); (case hoQz => assumption); (case hsQz => k_extra "mine pick"); (case htQz => exact ⟨by decide, by decide⟩); (case offQz => k_extra "mine off")); intro d'e59 td'e59 o'e59 h'e59 tk'e59 hd0e59 hd1e59 ho'e59 F'e59 N'e59; (rcases four_of hd0e59 hd1e59 with e9e59 | e9e59 | e9e59 | ⟨ea9e59, eb9e59, ec9e59, ed9e59, ee9e59, ef9e59⟩ <;> (try (subst e9e59; clear hd0e59 hd1e59))); all_goals ((try dsimp only); (try k_sweep); (try k_fold)))
  exact True.intro
local macro_rules | `(tactic| k_mem) => `(tactic| k_extra "mine mem")
theorem ln13 : True := by
  k_with "call ref" => (k_here; (with_reducible show wpAny _ _ (call (Value.ref 266) [_]) _ _ _); k_dflt ((first | with_reducible refine' kind_use ?k1Qz ?k2Qz ?k3Qz ?k4Qz ?k5Qz ?a3Qz ?hfQz ?hkQz ?a1Qz ?a2Qz ?a4Qz ?hTQz ?sbQz ?_ | refine' kind_use ?k1Qz ?k2Qz ?k3Qz ?k4Qz ?k5Qz ?a3Qz ?hfQz ?hkQz ?a1Qz ?a2Qz ?a4Qz ?hTQz ?sbQz ?_); (case k1Qz => k_asm); (case k2Qz => k_asm); (case k3Qz => k_asm); (case k4Qz => k_asm); (case k5Qz => k_asm); (case a3Qz => exact rfl); (case hfQz => first | exact rfl | assumption); (case hkQz => first | exact rfl | assumption); (case a1Qz => exact rfl); (case a2Qz => k_extra "mine room"); (case a4Qz => k_extra "mine room"); (case hTQz => assumption); (case sbQz => k_extra "mine subt")); intro t'e60 h'e60 tk'e60 F'e60 N'e60; (try k_sweep); (first | ((rename (kindS _ = _) => hk9e60); (simp only [hk9e60])) | ((rename Ty => ty9e60); (rcases kind5 ty9e60 with ⟨hk9e60, ha9e60⟩ | ⟨hk9e60, ha9e60⟩ | ⟨hk9e60, ha9e60⟩ | ⟨hk9e60, ha9e60⟩ | ⟨hk9e60, ha9e60⟩ <;> (simp only [hk9e60])))); all_goals (try k_fold))
  k_with "call ref" => (k_here; (with_reducible show wpAny _ _ (call (Value.ref 259) [Value.ref _]) _ _ _); k_dflt ((first | with_reducible refine' place_use ?k1Qz ?k2Qz ?k3Qz ?k4Qz ?k5Qz ?a3Qz ?hfQz ?hkQz ?a1Qz ?a2Qz ?a4Qz ?hneQz ?hoQz ?hsQz ?hs2Qz ?hdQz ?offQz ?off2Qz ?_ | refine' place_use ?k1Qz ?k2Qz ?k3Qz ?k4Qz ?k5Qz ?a3Qz ?hfQz ?hkQz ?a1Qz ?a2Qz ?a4Qz ?hneQz ?hoQz ?hsQz ?hs2Qz ?hdQz ?offQz ?off2Qz ?_); (case k1Qz => k_asm); (case k2Qz => k_asm); (case k3Qz => k_asm); (case k4Qz => k_asm); (case k5Qz => k_asm); (case a3Qz => exact rfl); (case hfQz => first | exact rfl | assumption); (case hkQz => first | exact rfl | assumption); (case a1Qz => exact rfl); (case a2Qz => k_extra "mine room"); (case a4Qz => k_extra "mine room"); (case hoQz => assumption); (case hsQz => k_extra "mine pick"); (case hneQz => assumption); (case hs2Qz => k_extra "mine pick"); (case hdQz => exact rfl); (case offQz => k_extra "mine off"); (case off2Qz => k_extra "mine off")); intro o'e61 a'e61 p'e61 rv'e61 ty'e61 r'e61 b'e61 d'e61 fr'e61 h'e61 tk'e61 ho'e61 hg'e61 hoff'e61 hoff2'e61 hm'e61 hP'e61 hR'e61 hd'e61 F'e61 N'e61; (cases r'e61 <;> (dsimp only [RootV] at hR'e61) <;> (first | subst hR'e61 | (obtain ⟨rt'e61, hR'e61⟩ := hR'e61; subst hR'e61))); all_goals ((try dsimp only); (try k_sweep); (try k_fold)))
  k_with "call ref" => (k_here; (with_reducible show wpAny _ _ (call (Value.ref 252) [Value.int _ _]) _ _ _); k_dflt ((first | with_reducible refine' local_use2 ?k1Qz ?k2Qz ?k3Qz ?k4Qz ?k5Qz ?a3Qz ?hfQz ?hkQz ?a1Qz ?a2Qz ?a4Qz ?hneQz ?hoQz ?hsQz ?hs2Qz ?hdQz ?offQz ?off2Qz ?hnQz ?hn2Qz ?_ | refine' local_use2 ?k1Qz ?k2Qz ?k3Qz ?k4Qz ?k5Qz ?a3Qz ?hfQz ?hkQz ?a1Qz ?a2Qz ?a4Qz ?hneQz ?hoQz ?hsQz ?hs2Qz ?hdQz ?offQz ?off2Qz ?hnQz ?hn2Qz ?_); (case k1Qz => k_asm); (case k2Qz => k_asm); (case k3Qz => k_asm); (case k4Qz => k_asm); (case k5Qz => k_asm); (case a3Qz => exact rfl); (case hfQz => first | exact rfl | assumption); (case hkQz => first | exact rfl | assumption); (case a1Qz => exact rfl); (case a2Qz => k_extra "mine room"); (case a4Qz => k_extra "mine room"); (case hoQz => assumption); (case hsQz => k_extra "mine pick"); (case hneQz => assumption); (case hs2Qz => k_extra "mine pick"); (case hdQz => exact rfl); (case offQz => k_extra "mine off"); (case off2Qz => k_extra "mine off"); (case hnQz => first | assumption | decide); (case hn2Qz => first | assumption | decide)); intro v'e62 fr'e62 h'e62 tk'e62 hg'e62 hoff'e62 hoff2'e62 hP'e62 hF'e62 F'e62 N'e62; (try dsimp only); (try k_sweep); (try k_fold))
  k_with "subscriptTail" => (k_here; (with_reducible show wpAny _ _ (subscriptTail _ _ (Value.ref _) (Value.int 1 _)) _ _ _); k_dflt ((first | with_reducible refine' place_ty ?k1Qz ?hPQz ?stQz ?_ ?k7Qz | refine' place_ty ?k1Qz ?hPQz ?stQz ?_ ?k7Qz); (case hPQz => with_reducible assumption); (case k1Qz => k_asm); (case stQz => k_extra "mine subt"); (case k7Qz => with_unfolding_all rfl)); intro tv'e63 hT'e63; (try dsimp only); (try k_fold))
  k_with "subscriptTail Name Constant ref int" => (k_here; (with_reducible show wpAny _ _ (subscriptTail _ _ (Value.ref _) (Value.int 1 _)) _ _ _); k_dflt ((first | with_reducible refine' place_ty ?k1Qz ?hPQz ?stQz ?_ ?k7Qz | refine' place_ty ?k1Qz ?hPQz ?stQz ?_ ?k7Qz); (case hPQz => with_reducible assumption); (case k1Qz => k_asm); (case stQz => k_extra "mine subt"); (case k7Qz => with_unfolding_all rfl)); intro tv'e64 hT'e64; (try dsimp only); (try k_fold))
  k_with "call builtin:list.append" => (k_here; (with_reducible show wpAny _ _ (call (Value.builtin _) [Value.ref _, Value.int _ _]) _ _ _); (with_reducible rename IntsAre _ _ => hi9e65); k_dflt ((first | with_reducible refine' due_append ?FQz ?NQz ?hsQz hi9e65 ?hlQz ?offQz ?_ | refine' due_append ?FQz ?NQz ?hsQz hi9e65 ?hlQz ?offQz ?_); (case FQz => k_asm); (case NQz => k_asm); (case hsQz => k_extra "mine pick"); (case hlQz => omega); (case offQz => k_extra "mine off")); intro h'e65 hi'e65 F'e65 N'e65; (try dsimp only); (try k_sweep); (try k_fold))
  exact True.intro
--#END
noncomputable def vaPre (g : Addr × Obj × Addr × Array Value × Nat × List Int × Led) (news : Led) (vs : List Value) : Prop :=
  news = (g.1, g.2.1) :: (g.2.2.1, listOf g.2.2.2.1 g.2.2.2.2.1) :: g.2.2.2.2.2.2 ∧ vs = [.ref g.1, .ref g.2.2.1] ∧ SrcOk g.2.1 ∧ @Ne Nat g.2.2.1 g.1 ∧ Off g.1 g.2.2.2.2.2.2 ∧ Off g.2.2.1 g.2.2.2.2.2.2 ∧ IntsAre g.2.2.2.1.toList g.2.2.2.2.2.1 ∧ g.2.2.2.2.2.1.length ≤ 5000
noncomputable def vaPost (g : Addr × Obj × Addr × Array Value × Nat × List Int × Led) (news : Led) (v : Value) : Prop :=
  ∃ o its n ext fr, news = (g.1, o) :: (g.2.2.1, listOf its n) :: fr ∧ SrcOk o ∧ Grow g.2.2.2.2.2.2 fr ∧ IntsAre its.toList (g.2.2.2.2.2.1 ++ ext) ∧ ext.length ≤ 1 ∧ (∃ a, v = .ref a) ∧ Fnd fr v ext 60
theorem value_end {h₀ h : Heap} {L src due : Addr} {m : Str → Option Value} {fr fr' r₁ news : Led} {s : Shared} {Q : Value → Shared → Prop} {a : Addr} {o o' : Obj} {its its' : Array Value} {n n' tk : Nat} {l ext : List Int}
    (hret : ∀ r news' h' tk', Fr h₀ L h' m → News h₀ L h' news' → vaPost (src, o, due, its, n, l, fr) news' r → Q r { s with heap := h', toks := tk' })
    (F : Fr h₀ L h m) (N : News h₀ L h news) (ho : SrcOk o') (hs : Pick (src, o') news r₁) (hs2 : Pick (due, listOf its' n') r₁ fr') (sb : Sub fr fr') (hi : IntsAre its'.toList (l ++ ext)) (he : ext.length ≤ 1) (hv : Fnd fr' (.ref a) ext 60) :
    Q (.ref a) { s with heap := h, toks := tk } := by
  refine hret _ ((src, o') :: (due, listOf its' n') :: clean fr fr') _ _ F (fun p m => N p (hs.sub p ?_)) ⟨o', its', n', ext, clean fr fr', rfl, ho, Grow.clean, hi, he, ⟨_, rfl⟩, hv.mono SubT.clean⟩
  rcases List.mem_cons.mp m with rfl | m
  · exact .head _
  · refine .tail _ (hs2.sub p ?_)
    rcases List.mem_cons.mp m with rfl | m
    · exact .head _
    · exact .tail _ (sb.clean p m)
set_option maxRecDepth 100000 in
set_option maxHeartbeats 8000000 in
theorem value_con (w : World) : Con w 273 560 7600 vaPre vaPost := by
  unfold Con
  k_fill
  rintro ⟨src, o, due, its, n, l, fr⟩ mean mg mb env outer gd A₀ base h₀ L m news s vs Q E B F X N T hf hk ⟨rfl, rfl, ho, hne, hoff, hoff2, hi, hl⟩ hret
  try dsimp only at *
  k_extra "mine enter"
  k_steps
  all_goals (refine' value_end hret ?F ?N ?ho ?hs ?hs2 ?sb ?hi ?he ?hv; (case F => k_asm); (case N => k_asm); (case ho => assumption); (case hs => k_extra "mine pick"); (case hs2 => k_extra "mine pick"); (case sb => k_extra "mine sub"); (case hi => first | with_reducible assumption | exact ints_nil (by with_reducible assumption)); (case he => first | exact Nat.zero_le _ | exact Nat.le_refl _); (case hv => first | (refine' val_place ?v0 ?v1; (case v0 => k_extra "mine rel"); (case v1 => assumption)) | (refine' val_bin ?v0 ?v1 ?v2; (case v0 => k_extra "mine mem"); (case v1 => k_extra "mine mem"); (case v2 => k_extra "mine rel")) | (refine' val_addr ?v0 ?v1 ?v2 ?v3; (case v0 => k_extra "mine mem"); (case v1 => k_extra "mine mem"); (case v2 => k_extra "mine rel"); (case v3 => assumption)) | (refine' val_cut1 ?v0 ?v1 ?v2 ?v3 ?v4 ?v5; (case v0 => k_extra "mine mem"); (case v1 => k_extra "mine mem"); (case v2 => k_extra "mine rel"); (case v3 => assumption); (case v4 => k_extra "mine mem"); (case v5 => first | exact rfl | assumption)) | (refine' val_cut0 ?v0 ?v1 ?v2 ?v3 ?v4 ?v5; (case v0 => k_extra "mine mem"); (case v1 => k_extra "mine mem"); (case v2 => k_extra "mine rel"); (case v3 => assumption); (case v4 => k_extra "mine mem"); (case v5 => first | exact (Or.inl rfl) | exact (Or.inl (by assumption)))) | (refine' val_cut0 ?v0 ?v1 ?v2 ?v3 ?v4 ?v5; (case v0 => k_extra "mine mem"); (case v1 => k_extra "mine mem"); (case v2 => k_extra "mine rel"); (case v3 => assumption); (case v4 => k_extra "mine mem"); (case v5 => exact (Or.inr rfl))) | fail "value"))

end
--PART A12Stmt
section
theorem value_use {w : World} {src due : Addr} {o : Obj} {its : Array Value} {n : Nat} {l : List Int} {r₁ fr : Led}
    {mean : ExcName → Option Value} {mg mb : Str → Option Value} {A : Around} {env : Env} {outer : List Env} {A₀ : Around} {base h₀ : Heap} {L : Addr} {m : Str → Option Value} {news : Led} {s : Shared} {Q E : Value → Shared → Prop}
    (B : Below A₀ base outer h₀) (F : Fr h₀ L s.heap m) (X : (hd.heap_39 w.params).In h₀) (N : News h₀ L s.heap news) (T : Top hd.view_39 (looseW hd.view_39 [Str.ofString "ChanError"]) mean mg mb h₀)
    (a3 : A.frames = some (env :: outer)) (hf : env.frame = some L) (hk : env.scope.kind = .function) (a1 : A.handled = none) (a2 : A.depth ≤ 560) (a4 : A.units ≤ 7600)
    (hs : Pick (src, o) news r₁) (hs2 : Pick (due, listOf its n) r₁ fr) (ho : SrcOk o) (hne : @Ne Nat due src) (hoff : Off src fr) (hoff2 : Off due fr) (hi : IntsAre its.toList l) (hl : l.length ≤ 5000)
    (k : ∀ o' its' n' ext fr' a h' tk', SrcOk o' → Grow fr fr' → Off src fr' → Off due fr' → IntsAre its'.toList (l ++ ext) → ext.length ≤ 1 → Fnd fr' (.ref a) ext 60 → Fr h₀ L h' m → News h₀ L h' ((src, o') :: (due, listOf its' n') :: fr') → Q (.ref a) { s with heap := h', toks := tk' }) :
    wpAny (model PySem.Challenge.rw_on0017_01.row.prog w) A (call (.ref 273) [.ref src, .ref due]) Q E s := by
  have N1 : News h₀ L s.heap ((src, o) :: (due, listOf its n) :: fr) := fun p m => N p (hs.sub p (by
    rcases List.mem_cons.mp m with rfl | m
    · exact .head _
    · exact .tail _ (hs2.sub p m)))
  refine (value_con w).use ⟨src, o, due, its, n, l, fr⟩ B F X N1 T hf hk a1 a2 a3 a4 (fun _ m => m) ⟨rfl, rfl, ho, hne, hoff, hoff2, hi, hl⟩ (fun r news' h' tk' F' N' hp => ?_)
  obtain ⟨o', its', n', ext, fr', rfl, ho', g, hi', he, ⟨a, rfl⟩, hv⟩ := hp
  exact k o' its' n' ext fr' a h' tk' ho' g (hoff.grow g) (hoff2.grow g) hi' he hv F' N'
structure StG where
  (src : Addr) (o : Obj) (due : Addr) (its : Array Value) (n : Nat) (l : List Int) (fr : Led) (kt : Tok)
noncomputable def stPre (k : Int) (cap : Nat) (g : StG) (news : Led) (vs : List Value) : Prop :=
  news = (g.src, g.o) :: (g.due, listOf g.its g.n) :: g.fr ∧ vs = [.ref g.src, .ref g.due, .int k g.kt] ∧ SrcOk g.o ∧ @Ne Nat g.due g.src ∧ Off g.src g.fr ∧ Off g.due g.fr ∧ IntsAre g.its.toList g.l ∧ g.l.length + cap ≤ 4000
noncomputable def stPost (cap sz : Nat) (g : StG) (news : Led) (v : Value) : Prop :=
  ∃ o its n ext fr, news = (g.src, o) :: (g.due, listOf its n) :: fr ∧ SrcOk o ∧ Grow g.fr fr ∧ IntsAre its.toList (g.l ++ ext) ∧ ext.length ≤ cap ∧ (∃ a, v = .ref a) ∧ Fnd fr v ext sz
theorem st_use {w : World} {dz uz cap sz : Nat} {kk : Int} {kt : Tok} (C : Con w 278 dz uz (stPre kk cap) (stPost cap sz)) {src due : Addr} {o : Obj} {its : Array Value} {n : Nat} {l : List Int} {r₁ fr : Led}
    {mean : ExcName → Option Value} {mg mb : Str → Option Value} {A : Around} {env : Env} {outer : List Env} {A₀ : Around} {base h₀ : Heap} {L : Addr} {m : Str → Option Value} {news : Led} {s : Shared} {Q E : Value → Shared → Prop}
    (B : Below A₀ base outer h₀) (F : Fr h₀ L s.heap m) (X : (hd.heap_39 w.params).In h₀) (N : News h₀ L s.heap news) (T : Top hd.view_39 (looseW hd.view_39 [Str.ofString "ChanError"]) mean mg mb h₀)
    (a3 : A.frames = some (env :: outer)) (hf : env.frame = some L) (hk : env.scope.kind = .function) (a1 : A.handled = none) (a2 : A.depth ≤ dz) (a4 : A.units ≤ uz)
    (hs : Pick (src, o) news r₁) (hs2 : Pick (due, listOf its n) r₁ fr) (ho : SrcOk o) (hne : @Ne Nat due src) (hoff : Off src fr) (hoff2 : Off due fr) (hi : IntsAre its.toList l) (hl : l.length + cap ≤ 4000)
    (k : ∀ o' its' n' ext fr' a h' tk', SrcOk o' → Grow fr fr' → Off src fr' → Off due fr' → IntsAre its'.toList (l ++ ext) → ext.length ≤ cap → Fnd fr' (.ref a) ext sz → Fr h₀ L h' m → News h₀ L h' ((src, o') :: (due, listOf its' n') :: fr') → Q (.ref a) { s with heap := h', toks := tk' }) :
    wpAny (model PySem.Challenge.rw_on0017_01.row.prog w) A (call (.ref 278) [.ref src, .ref due, .int kk kt]) Q E s := by
  have N1 : News h₀ L s.heap ((src, o) :: (due, listOf its n) :: fr) := fun p m => N p (hs.sub p (by
    rcases List.mem_cons.mp m with rfl | m
    · exact .head _
    · exact .tail _ (hs2.sub p m)))
  refine C.use ⟨src, o, due, its, n, l, fr, kt⟩ B F X N1 T hf hk a1 a2 a3 a4 (fun _ m => m) ⟨rfl, rfl, ho, hne, hoff, hoff2, hi, hl⟩ (fun r news' h' tk' F' N' hp => ?_)
  obtain ⟨o', its', n', ext, fr', rfl, ho', g, hi', he, ⟨a, rfl⟩, hv⟩ := hp
  exact k o' its' n' ext fr' a h' tk' ho' g (hoff.grow g) (hoff2.grow g) hi' he hv F' N'
theorem WalkAll.snoc {l : Led} {v : Value} {ys : List Int} {k : Nat} (h : Walk l v ys k) : ∀ {vs : List Value} {xs : List Int} {n : Nat}, WalkAll l vs xs n → WalkAll l (vs ++ [v]) (xs ++ ys) (n + k)
  | _, _, _, .nil => by
    have := WalkAll.cons h WalkAll.nil
    simpa using this
  | _, _, _, .cons (xs := xs) (ys := zs) (n := n) (k := k') a r => by
    have := WalkAll.cons a (WalkAll.snoc h r)
    rw [List.append_assoc, Nat.add_assoc]
    exact this
theorem FndAll.snoc {l : Led} {v : Value} {vs : List Value} {xs ys : List Int} {n k : Nat} (h : FndAll l vs xs n) (r : Fnd l v ys k) : FndAll l (vs ++ [v]) (xs ++ ys) (n + k) := by
  obtain ⟨xs', n', w, hn, hx⟩ := h
  obtain ⟨ys', k', w', hk, hy⟩ := r
  exact ⟨_, _, .snoc w' w, by omega, fun x => by rw [List.mem_append, List.mem_append, hx, hy]⟩
theorem FndAll.mono {l l' : Led} {vs : List Value} {xs : List Int} {n : Nat} (s : SubT l l') (h : FndAll l vs xs n) : FndAll l' vs xs n := let ⟨ys, k, w, a, b⟩ := h; ⟨ys, k, w.mono s, a, b⟩
theorem FndAll.up {l l' : Led} {vs : List Value} {xs : List Int} {n : Nat} (h : FndAll l vs xs n) (s : SubT l l') : FndAll l' vs xs n := h.mono s
structure SD where
  (o : Obj) (its : Array Value) (n : Nat) (ext : List Int)
noncomputable def sdMu (src due : Addr) (c : SD) : Led := [(src, c.o), (due, listOf c.its c.n)]
noncomputable def allRefs (ys : List Value) : Prop := ∀ y ∈ ys, ∃ a, y = .ref a
noncomputable def sdInv (l : List Int) (cap sz : Nat) (i : Nat) (c : SD) (ys : List Value) (fr : Led) : Prop := SrcOk c.o ∧ IntsAre c.its.toList (l ++ c.ext) ∧ c.ext.length ≤ i * cap ∧ FndAll fr ys c.ext (i * sz) ∧ ys.length = i ∧ allRefs ys
noncomputable def StEnd (h₀ : Heap) (L : Addr) (m : Str → Option Value) (src due : Addr) (l : List Int) (cap sz : Nat) (fr : Led) (s₁ : Shared) (y : Value) (s₂ : Shared) : Prop :=
  ∃ h' tk o' its' n' ext fr' a, s₂ = { s₁ with heap := h', toks := tk } ∧ y = .ref a ∧ Fr h₀ L h' m ∧ News h₀ L h' ((src, o') :: (due, listOf its' n') :: fr') ∧ Grow fr fr' ∧ SrcOk o' ∧ IntsAre its'.toList (l ++ ext) ∧ ext.length ≤ cap ∧ Fnd fr' (.ref a) ext sz
section
open PyProof.Rows.LCg
variable {prog : Program} {w : World} {A : Around} {E : Value → Shared → Prop} {h₀ : Heap} {L : Addr} {m : Str → Option Value} {env : Env}
noncomputable def StTurn (prog : Program) (w : World) (A : Around) (h₀ : Heap) (L : Addr) (m : Str → Option Value) (env : Env) (elt : Expr) (x : Str) (scope : Scope) (cl : List (Str × Addr)) (s₁ : Shared) (src due : Addr) (l₀ cap sz : Nat) (fr : Led) : Prop :=
  ∀ o its n l fr' C oC m₂ h tk (E' : Value → Shared → Prop), SrcOk o → IntsAre its.toList l → l.length + cap ≤ l₀ → Off src fr' → Off due fr' → Sub fr fr' → (C, oC) ∈ fr' → NsObj oC m₂ → Fr h₀ L h m → News h₀ L h ((src, o) :: (due, listOf its n) :: fr') →
    wpAny (model prog w) A (eval elt (compEnvC scope cl C env)) (StEnd h₀ L m src due l cap sz fr' { s₁ with heap := h, toks := tk }) E' { s₁ with heap := h, toks := tk }
theorem st_turn {elt : Expr} {x : Str} {scope : Scope} {cl : List (Str × Addr)} {s₁ : Shared} {src due : Addr} {l : List Int} {cap sz b l₀ : Nat} {fr : Led} (hl : l.length + b * cap ≤ l₀)
    (turn : StTurn prog w A h₀ L m env elt x scope cl s₁ src due l₀ cap sz fr) :
    CTurn prog w A h₀ L m env [] elt x scope cl s₁ (sdMu src due) [src, due] b (fun i v => ∃ t, v = .int (0 + (i : Int)) t) (sdInv l cap sz) fr := by
  rintro i v ⟨o, its, n, ext⟩ ys fr' I oI C oC D m₂ h tk E' hi hv sb ⟨h1, h2, h3, h4, h5, h6⟩ hC hx hoff F N
  refine wpAny_tests_nil ?_
  simp only [if_true]
  have hbound : (i + 1) * cap ≤ b * cap := Nat.mul_le_mul_right _ hi
  rw [Nat.add_mul, Nat.one_mul] at hbound
  refine wpAny_mono (turn o its n (l ++ ext) ((I, oI) :: (C, oC) :: (D, lst ys) :: fr') C oC m₂ h tk E' h1 h2 (by rw [List.length_append]; dsimp only at h3; omega) (hoff src (.head _)) (hoff due (.tail _ (.head _))) (fun p hp => .tail _ (.tail _ (.tail _ (sb p hp)))) (.tail _ (.head _)) hC F N) (fun y s'' q => ?_) fun _ _ e => e
  obtain ⟨h', tk', o', its', n', ext', fr'', a, rfl, rfl, F', N', g, q1, q2, q3, q4⟩ := q
  have st : SubT fr' fr'' := fun p hp _ => g.1 p (.tail _ (.tail _ (.tail _ hp)))
  refine ⟨h', tk', ⟨o', its', n', ext ++ ext'⟩, fr'', rfl, F', N', g, fun b hb => (hoff b hb).grow g, q1, by rwa [← List.append_assoc], ?_, ?_, ?_, ?_⟩
  · rw [List.length_append, Nat.add_mul, Nat.one_mul]
    exact Nat.add_le_add h3 q3
  · rw [Nat.add_mul, Nat.one_mul]
    exact (h4.mono st).snoc q4
  · rw [List.length_append, h5]; rfl
  · intro y hy
    rcases List.mem_append.mp hy with hy | hy
    · exact h6 y hy
    · rw [List.mem_singleton.mp hy]; exact ⟨_, rfl⟩
section
variable {elt iter : Expr} {x y : Str} {px py : Pos} {scope : Scope} {cl : List (Str × Addr)} {pos : Pos} {Q : Value → Shared → Prop} {s₁ : Shared} {src due r : Addr} {o : Obj} {its : Array Value} {n : Nat} {l : List Int} {cap sz l₀ : Nat} {r₁ fr news : Led} {b : Int} {t u v : Tok}
theorem st_comp (hr : IsRange s₁.heap r 0 b 1 t u v) (hb1 : 1 ≤ b) (hb : b ≤ 8) (hh : A.handled = none) (hcell : ∀ y ∈ scope.names, y.2 ≠ .cell) (hkind : scope.kind = .function) (hx : scope.names.lookup x = some .local)
    (F : Fr h₀ L s₁.heap m) (N : News h₀ L s₁.heap news) (hs : Pick (src, o) news r₁) (hs2 : Pick (due, listOf its n) r₁ fr) (ho : SrcOk o) (hne : @Ne Nat due src) (hoff : Off src fr) (hoff2 : Off due fr) (hi : IntsAre its.toList l) (hl : l.length + b.toNat * cap ≤ l₀)
    (turn : StTurn prog w A h₀ L m env elt x scope cl s₁ src due l₀ cap sz fr)
    (fin : ∀ D ys o its n ext fr' h tk, SrcOk o → Grow fr fr' → Off src fr' → Off due fr' → IntsAre its.toList (l ++ ext) → ext.length ≤ b.toNat * cap → FndAll fr' ys ext (b.toNat * sz) → ys.length = b.toNat → allRefs ys → @Ne Nat D src → @Ne Nat D due → Fr h₀ L h m → News h₀ L h ((D, lst ys) :: (src, o) :: (due, listOf its n) :: fr') → Q (.ref D) { s₁ with heap := h, toks := tk }) :
    CSrc prog w A elt iter [] x px scope cl pos env none E Q (.ref r) s₁ := by
  have hsub : ∀ p ∈ (src, o) :: (due, listOf its n) :: fr, p ∈ news := fun p m => hs.sub p (by
    rcases List.mem_cons.mp m with rfl | m
    · exact .head _
    · exact .tail _ (hs2.sub p m))
  have hsm : Builtin.Range.small 0 b 1 = true := by
    obtain rfl | rfl | rfl | rfl | rfl | rfl | rfl | rfl : b = 1 ∨ b = 2 ∨ b = 3 ∨ b = 4 ∨ b = 5 ∨ b = 6 ∨ b = 7 ∨ b = 8 := by omega
    all_goals decide
  have hsz : Builtin.Range.rangeSize 0 b 1 = ((b.toNat : Nat) : Int) := by
    have := rangeSize_nat 0 b
    rwa [Int.sub_zero] at this
  refine CSrc.go (sdMu src due) [src, due] (sdInv l cap sz) ⟨o, its, n, []⟩ fr (fun _ => rfl) ?_ (ItSrc.range hh hr hsm hsz) (fun i c ys fr hi q => by rw [q.2.2.2.2.1, sizeLine_eq]; omega) hcell hkind hx F (fun p m => N p (hsub p m)) ?_ ⟨ho, by rwa [List.append_nil], by simp, by rw [Nat.zero_mul]; exact FndAll.nil, rfl, fun _ h => nomatch h⟩ (st_turn (b := b.toNat) hl turn) ?_
  · rintro i c ys fr fr' st ⟨h1, h2, h3, h4, h5, h6⟩
    exact ⟨h1, h2, h3, h4.mono st, h5, h6⟩
  · intro a ha
    rcases List.mem_cons.mp ha with rfl | ha
    · exact hoff
    · rw [List.mem_singleton.mp ha]; exact hoff2
  · rintro D h tk ⟨o', its', n', ext⟩ ys fr' g off nD ⟨h1, h2, h3, h4, h5, h6⟩ F' N'
    exact fin D ys o' its' n' ext fr' h tk h1 g (off src (.head _)) (off due (.tail _ (.head _))) h2 h3 h4 h5 h6 (fun e => nD (src, o') (.head _) e.symm) (fun e => nD (due, _) (.tail _ (.head _)) e.symm) F' N'
theorem st_compA (hr : IsRange s₁.heap r 0 b 1 t u v) (hb1 : 1 ≤ b) (hb : b ≤ 8) (hh : A.handled = none) (hcell : ∀ y ∈ scope.names, y.2 ≠ .cell) (hkind : scope.kind = .function) (hx : scope.names.lookup x = some .local)
    (hLe : env.locals = L) (hy : env.kindOf y = some .local) (hp : (env.scope.kind == .class || (env.scope.kind == .module && env.locals != env.globals)) = false)
    (F : Fr h₀ L s₁.heap m) (N : News h₀ L s₁.heap news) (hs : Pick (src, o) news r₁) (hs2 : Pick (due, listOf its n) r₁ fr) (ho : SrcOk o) (hne : @Ne Nat due src) (hoff : Off src fr) (hoff2 : Off due fr) (hi : IntsAre its.toList l) (hl : l.length + b.toNat * cap ≤ l₀)
    (turn : StTurn prog w A h₀ L m env elt x scope cl s₁ src due l₀ cap sz fr)
    (fin : ∀ D ys o its n ext fr' h tk, SrcOk o → Grow fr fr' → Off src fr' → Off due fr' → IntsAre its.toList (l ++ ext) → ext.length ≤ b.toNat * cap → FndAll fr' ys ext (b.toNat * sz) → ys.length = b.toNat → allRefs ys → @Ne Nat D src → @Ne Nat D due → (∀ p ∈ fr', p.1 ≠ D) → Fr h₀ L h (fun z => if z = y then some (.ref D) else m z) → News h₀ L h ((D, lst ys) :: (src, o) :: (due, listOf its n) :: fr') → Q .none { s₁ with heap := h, toks := tk }) :
    CSrc prog w A elt iter [] x px scope cl pos env (some (assign (.Name y py) env)) E Q (.ref r) s₁ := by
  have hsub : ∀ p ∈ (src, o) :: (due, listOf its n) :: fr, p ∈ news := fun p m => hs.sub p (by
    rcases List.mem_cons.mp m with rfl | m
    · exact .head _
    · exact .tail _ (hs2.sub p m))
  have hsm : Builtin.Range.small 0 b 1 = true := by
    obtain rfl | rfl | rfl | rfl | rfl | rfl | rfl | rfl : b = 1 ∨ b = 2 ∨ b = 3 ∨ b = 4 ∨ b = 5 ∨ b = 6 ∨ b = 7 ∨ b = 8 := by omega
    all_goals decide
  have hsz : Builtin.Range.rangeSize 0 b 1 = ((b.toNat : Nat) : Int) := by
    have := rangeSize_nat 0 b
    rwa [Int.sub_zero] at this
  refine CSrc.goA (sdMu src due) [src, due] (sdInv l cap sz) ⟨o, its, n, []⟩ fr (fun _ => rfl) ?_ hLe hy hp (ItSrc.range hh hr hsm hsz) (fun i c ys fr hi q => by rw [q.2.2.2.2.1, sizeLine_eq]; omega) hcell hkind hx F (fun p m => N p (hsub p m)) ?_ ⟨ho, by rwa [List.append_nil], by simp, by rw [Nat.zero_mul]; exact FndAll.nil, rfl, fun _ h => nomatch h⟩ (st_turn (b := b.toNat) hl turn) ?_
  · rintro i c ys fr fr' st ⟨h1, h2, h3, h4, h5, h6⟩
    exact ⟨h1, h2, h3, h4.mono st, h5, h6⟩
  · intro a ha
    rcases List.mem_cons.mp ha with rfl | ha
    · exact hoff
    · rw [List.mem_singleton.mp ha]; exact hoff2
  · rintro D h tk ⟨o', its', n', ext⟩ ys fr' g off nD ⟨h1, h2, h3, h4, h5, h6⟩ F' N'
    exact fin D ys o' its' n' ext fr' h tk h1 g (off src (.head _)) (off due (.tail _ (.head _))) h2 h3 h4 h5 h6 (fun e => nD (src, o') (.head _) e.symm) (fun e => nD (due, _) (.tail _ (.head _)) e.symm) (fun p hp => nD p (.tail _ (.tail _ hp))) F' N'
end
end
noncomputable def StIH (w : World) (k : Int) (dz uz cap sz : Nat) : Prop := 0 < k → Con w 278 dz uz (stPre (k - 1) cap) (stPost cap sz)
theorem st_compK {prog : Program} {w : World} {A : Around} {E : Value → Shared → Prop} {h₀ : Heap} {L : Addr} {m : Str → Option Value} {env : Env} {elt iter : Expr} {x : Str} {px : Pos} {scope : Scope} {cl : List (Str × Addr)} {pos : Pos} {Q : Value → Shared → Prop} {s₁ : Shared} {src due r : Addr} {o : Obj} {its : Array Value} {n : Nat} {l : List Int} {cap sz dz uz : Nat} {k : Int} {r₁ fr news : Led} {b : Int} {t u v : Tok}
    (_ih : StIH w k dz uz cap sz) (hr : IsRange s₁.heap r 0 b 1 t u v) (hb1 : 1 ≤ b) (hb : b ≤ 2) (hh : A.handled = none) (hcell : ∀ y ∈ scope.names, y.2 ≠ .cell) (hkind : scope.kind = .function) (hx : scope.names.lookup x = some .local)
    (F : Fr h₀ L s₁.heap m) (N : News h₀ L s₁.heap news) (hs : Pick (src, o) news r₁) (hs2 : Pick (due, listOf its n) r₁ fr) (ho : SrcOk o) (hne : @Ne Nat due src) (hoff : Off src fr) (hoff2 : Off due fr) (hi : IntsAre its.toList l) (hl : l.length + (cap + cap) ≤ 4000)
    (turn : StTurn prog w A h₀ L m env elt x scope cl s₁ src due 4000 cap sz fr)
    (fin : ∀ D ys o its n ext fr' h tk, SrcOk o → Grow fr fr' → Off src fr' → Off due fr' → IntsAre its.toList (l ++ ext) → ext.length ≤ cap + cap → FndAll fr' ys ext (2 * sz) → 1 ≤ ys.length → ys.length ≤ 2 → allRefs ys → @Ne Nat D src → @Ne Nat D due → Fr h₀ L h m → News h₀ L h ((D, listOf ys.toArray ys.length) :: (src, o) :: (due, listOf its n) :: fr') → Q (.ref D) { s₁ with heap := h, toks := tk }) :
    CSrc prog w A elt iter [] x px scope cl pos env none E Q (.ref r) s₁ := by
  have hbc : b.toNat * cap ≤ cap + cap := by
    have := Nat.mul_le_mul_right cap (show b.toNat ≤ 2 by omega)
    omega
  refine st_comp (cap := cap) (sz := sz) (l₀ := 4000) hr hb1 (by omega) hh hcell hkind hx F N hs hs2 ho hne hoff hoff2 hi (by omega) turn ?_
  intro D ys o' its' n' ext fr' h tk h1 h2 h3 h4 h5 h6 h7 h8 h9 e1 e2 F' N'
  refine fin D ys o' its' n' ext fr' h tk h1 h2 h3 h4 h5 (by omega) ?_ (by omega) (by omega) h9 e1 e2 F' N'
  obtain ⟨zs, q, w, hq, hz⟩ := h7
  exact ⟨zs, q, w, Nat.le_trans hq (Nat.mul_le_mul_right _ (by omega)), hz⟩
theorem StEnd.intro {h₀ h : Heap} {L : Addr} {m : Str → Option Value} {src due a : Addr} {l ext : List Int} {cap sz n tk : Nat} {its : Array Value} {o : Obj} {fr fr' : Led} {s₁ : Shared} (F : Fr h₀ L h m) (N : News h₀ L h ((src, o) :: (due, listOf its n) :: fr')) (g : Grow fr fr') (ho : SrcOk o) (hi : IntsAre its.toList (l ++ ext)) (he : ext.length ≤ cap) (hv : Fnd fr' (.ref a) ext sz) :
    StEnd h₀ L m src due l cap sz fr s₁ (.ref a) { s₁ with heap := h, toks := tk } := ⟨h, tk, o, its, n, ext, fr', a, rfl, rfl, F, N, g, ho, hi, he, hv⟩
structure WayMark : Prop where
  mk ::
noncomputable def WayEnd (h₀ : Heap) (L : Addr) (m : Str → Option Value) (src : Addr) (rest : Led) (k : Int) (s : Shared) (v : Value) (s₂ : Shared) : Prop :=
  ∃ d td o' h' tk', v = .int d td ∧ s₂ = { s with heap := h', toks := tk' } ∧ 0 ≤ d ∧ d < 8 ∧ (¬ 0 < k → d < 5) ∧ SrcOk o' ∧ Fr h₀ L h' m ∧ News h₀ L h' ((src, o') :: rest)
theorem way_cut {M : Model} {A : Around} {t : Sem Value} {Q : Value → Shared → Prop} {E : Value → Shared → Prop} {s : Shared} {h₀ : Heap} {L : Addr} {m : Str → Option Value} {news rest : Led} {src : Addr} {o : Obj} {k : Int} {dz uz cap sz : Nat} {w : World}
    (_ih : StIH w k dz uz cap sz) (_ho : SrcOk o) (_F : Fr h₀ L s.heap m) (_N : News h₀ L s.heap news) (_hs : Pick (src, o) news rest) (ga : wpAny M A t (WayEnd h₀ L m src rest k s) E s)
    (gb : ∀ d td o' h' tk', 0 ≤ d → d < 8 → (¬ 0 < k → d < 5) → SrcOk o' → Fr h₀ L h' m → News h₀ L h' ((src, o') :: rest) → Q (.int d td) { s with heap := h', toks := tk' }) : wpAny M A t Q E s :=
  wpAny_mono ga (fun v s' hx => by obtain ⟨d, td, o', h', tk', e1, e2, q1, q2, q3, q4, q5, q6⟩ := hx; rw [e1, e2]; exact gb d td o' h' tk' q1 q2 q3 q4 q5 q6) fun _ _ e => e
theorem way_end {h₀ h : Heap} {L : Addr} {m : Str → Option Value} {src : Addr} {rest : Led} {k d : Int} {td : Tok} {o : Obj} {s : Shared} {tk : Nat} (F : Fr h₀ L h m) (N : News h₀ L h ((src, o) :: rest)) (ho : SrcOk o) (h0 : 0 ≤ d) (h8 : d < 8) (h5 : ¬ 0 < k → d < 5) :
    WayEnd h₀ L m src rest k s (.int d td) { s with heap := h, toks := tk } := ⟨d, td, o, h, tk, rfl, rfl, h0, h8, h5, ho, F, N⟩
theorem tuple_ys {prog : Program} {w : World} {A : Around} {E : Value → Shared → Prop} {s : Shared} {h₀ : Heap} {L D : Addr} {m : Str → Option Value} {news fr : Led} {ys : List Value} {n k : Nat} {ext : List Int} {Q : Value → Shared → Prop} (F : Fr h₀ L s.heap m) (N : News h₀ L s.heap news) (hm : (D, listOf ys.toArray n) ∈ news) (_r : FndAll fr ys ext k) (hz : ys.length ≤ 16000)
    (h : ∀ T h', Fr h₀ L h' m → News h₀ L h' ((T, tupO ys) :: news) → Q (.ref T) { s with heap := h' }) : wpAny (model prog w) A (call (.type "tuple") [.ref D]) Q E s :=
  kde_tupleOf F N (N.isList hm) (by rw [List.size_toArray]; omega) rfl (fun T h' F' N' _ => h T h' F' N')
section
variable {l : Led} {a q r z : Addr} {t u x : Tok} {pv : Value} {ty : Ty} {rt : Option Nat} {b : Bool} {d : Nat} {ext : List Int}
theorem Fnd.seqs {ys : List Value} {xs : List Int} {n : Nat} (h : (a, tupO ys) ∈ l) (hr : allRefs ys) (h1 : 1 ≤ ys.length) (f : FndAll l ys xs n) : Fnd l (.ref a) xs (n + 1) := by
  cases ys with
  | nil => exact absurd h1 (by decide)
  | cons v vs =>
    obtain ⟨c, rfl⟩ := hr v (.head _)
    exact Fnd.seq h rfl f
theorem fnd_places {vs : List Value} {n : Nat} (h : (a, tupO vs) ∈ l) (hvs : vs = [pv] ∨ vs = [pv, .none]) (hr : isStrV pv = false) (f : Fnd l pv [] n) : Fnd l (.ref a) [] (n + 1) := by
  rcases hvs with rfl | rfl
  · exact Fnd.seq h hr (FndAll.one f)
  · exact Fnd.seq h hr (by simpa using FndAll.cons f (FndAll.skip rfl FndAll.nil))
theorem PlaceIn.notStr (h : PlaceIn l pv ty rt b d) : isStrV pv = false := by obtain ⟨a, rfl⟩ := h.isRef; rfl
theorem fnd_val {vv : Addr} {xs : List Int} {n : Nat} (h : (a, tupO [.ref vv]) ∈ l) (f : Fnd l (.ref vv) xs n) : Fnd l (.ref a) xs (n + 1) := Fnd.seq h rfl (FndAll.one f)
theorem st_set {vs : List Value} {vv : Addr} {xs : List Int} (m : (a, tupO [.str (Str.ofString "set") t, .int 0 u, .ref r, .ref q]) ∈ l) (hr : (r, tupO vs) ∈ l) (hvs : vs = [pv] ∨ vs = [pv, .none]) (hq : (q, tupO [.ref vv]) ∈ l) (hP : PlaceIn l pv ty rt b d) (hd : d ≤ 3) (f : Fnd l (.ref vv) ext 60)
    (e : xs = (if b then [] else rootL rt) ++ ext) : Fnd l (.ref a) xs 120 := by
  subst e
  have own : Own l (Str.ofString "set") [.int 0 u, .ref r, .ref q] (if b then [] else rootL rt) := by
    rcases hvs with rfl | rfl
    · exact .set1 hr hP
    · exact .set2 hr hP
  exact (Fnd.node m own (FndAll.skip rfl (by simpa using FndAll.cons (fnd_places hr hvs hP.notStr hP.fnd) (FndAll.one (fnd_val hq f))))).le (by omega)
theorem st_update {vv : Addr} {xs : List Int} (m : (a, tupO [.str (Str.ofString "update") t, .int 0 u, .str (Str.ofString "+") x, pv, .ref vv]) ∈ l) (hP : PlaceIn l pv ty rt b d) (hd : d ≤ 3) (f : Fnd l (.ref vv) ext 60)
    (e : xs = (if b then [] else rootL rt) ++ ext) : Fnd l (.ref a) xs 120 := by
  subst e
  exact (Fnd.node m (.update hP) (FndAll.skip rfl (FndAll.skip rfl (by simpa using FndAll.cons hP.fnd (FndAll.one f))))).le (by omega)
theorem st_do {vv : Addr} (m : (a, tupO [.str (Str.ofString "do") t, .int 0 u, .ref vv]) ∈ l) (f : Fnd l (.ref vv) ext 60) : Fnd l (.ref a) ext 120 :=
  (Fnd.plain m (by decide +kernel) (FndAll.skip rfl (FndAll.one f))).le (by omega)
theorem st_let {vv : Addr} {y : Tok} (m : (a, tupO [.str (Str.ofString "let") t, .int 0 u, .ref z, .ref q]) ∈ l) (hz : (z, tupO [.int 0 y, .none]) ∈ l) (hq : (q, tupO [.ref vv]) ∈ l) (f : Fnd l (.ref vv) ext 60) : Fnd l (.ref a) ext 120 := by
  have h1 : Fnd l (.ref z) [] 1 := Fnd.seq hz rfl (FndAll.skip rfl (FndAll.skip rfl FndAll.nil))
  have h2 : FndAll l [.ref z, .ref q] ext (1 + (60 + 1)) := by simpa using FndAll.cons h1 (FndAll.one (fnd_val hq f))
  exact (Fnd.plain m (by decide +kernel) (FndAll.skip rfl h2)).le (by omega)
theorem st_block {ys : List Value} {n : Nat} (m : (a, tupO [.str (Str.ofString "block") t, .int 0 u, .ref q]) ∈ l) (hq : (q, tupO ys) ∈ l) (hr : allRefs ys) (h1 : 1 ≤ ys.length) (f : FndAll l ys ext n) : Fnd l (.ref a) ext (n + 2) :=
  (Fnd.plain m (by decide +kernel) (FndAll.skip rfl (FndAll.one (Fnd.seqs hq hr h1 f)))).le (by omega)
theorem st_asked {c : Addr} {lv : Value} {bt : Addr} {x2 y y2 y3 : Tok} {n : Int} (m : (a, tupO [.str (Str.ofString "binary") t, .ref bt, .int 0 u, .str (Str.ofString "<") x, lv, .ref c]) ∈ l) (hb : (bt, tupO [.str (Str.ofString "bool") x2]) ∈ l) (f : FlatIn l lv) (hc : (c, tupO [.str (Str.ofString "const") y, .ref 228, .int 0 y2, .int n y3]) ∈ l) : Fnd l (.ref a) [] 16 := by
  have h1 : Fnd l (.ref bt) [] 1 := Fnd.plain hb (by decide +kernel) FndAll.nil
  have h2 := FndAll.cons h1 (FndAll.skip (v := .int 0 u) rfl (FndAll.skip (v := .str (Str.ofString "<") x) rfl (FndAll.cons f.fnd (FndAll.one (const_fnd hc)))))
  exact (Fnd.plain m (by decide +kernel) h2).le (by omega)
theorem st_if {ak bl : Addr} {n : Nat} (m : (a, tupO [.str (Str.ofString "if") t, .int 0 u, .ref ak, .ref bl, .none]) ∈ l) (h1 : Fnd l (.ref ak) [] 16) (h2 : Fnd l (.ref bl) ext n) : Fnd l (.ref a) ext (n + 17) := by
  have h3 : FndAll l [.ref ak, .ref bl, .none] ext (16 + (n + 0)) := by simpa using FndAll.cons h1 (FndAll.cons h2 (FndAll.skip (v := .none) rfl FndAll.nil))
  exact (Fnd.plain m (by decide +kernel) (FndAll.skip rfl h3)).le (by omega)
theorem st_step {c : Addr} {lv : Value} {i : Nat} {y y2 y3 : Tok} {n : Int} (m : (a, tupO [.str (Str.ofString "update") t, .int 0 u, .str (Str.ofString "+") x, lv, .ref c]) ∈ l) (hP : PlaceIn l lv ty (some i) true 0) (hc : (c, tupO [.str (Str.ofString "const") y, .ref 228, .int 0 y2, .int n y3]) ∈ l) : Fnd l (.ref a) [] 15 := by
  have h2 := FndAll.skip (v := .int 0 u) rfl (FndAll.skip (v := .str (Str.ofString "+") x) rfl (FndAll.cons hP.fnd (FndAll.one (const_fnd hc))))
  exact (Fnd.node m (.update hP) h2).le (by omega)
theorem st_for {ak bl e up u1 : Addr} {k : Int} {n : Nat} (m : (a, tupO [.str (Str.ofString "for") t, .int 0 u, .int k x, .ref e, .ref ak, .ref up, .ref bl]) ∈ l) (he : (e, tupO []) ∈ l) (h1 : Fnd l (.ref ak) [] 16) (hu : (up, tupO [.ref u1]) ∈ l) (h3 : Fnd l (.ref u1) [] 15) (h2 : Fnd l (.ref bl) ext n) : Fnd l (.ref a) ext (n + 34) := by
  have h4 : FndAll l [.ref e, .ref ak, .ref up, .ref bl] ext (1 + (16 + ((15 + 1) + n))) := by simpa using FndAll.cons (Fnd.empty he) (FndAll.cons h1 (FndAll.cons (fnd_val hu h3) (FndAll.one h2)))
  exact (Fnd.plain m (by decide +kernel) (FndAll.skip rfl (FndAll.skip rfl h4))).le (by omega)
end
theorem st_end {h₀ h : Heap} {L : Addr} {m : Str → Option Value} {g : StG} {fr' news : Led} {s : Shared} {Q : Value → Shared → Prop} {a : Addr} {o' : Obj} {its' : Array Value} {n' tk cap sz n : Nat} {ext : List Int}
    (hret : ∀ r news' h' tk', Fr h₀ L h' m → News h₀ L h' news' → stPost cap sz g news' r → Q r { s with heap := h', toks := tk' })
    (F : Fr h₀ L h m) (N : News h₀ L h news) (ho : SrcOk o') (hs : Pick (g.src, o') news fr') (hi : IntsAre its'.toList (g.l ++ ext)) (hd : (g.due, listOf its' n') ∈ fr') (sb : Sub g.fr fr') (he : ext.length ≤ cap) (hv : Fnd fr' (.ref a) ext n) (hn : n ≤ sz) :
    Q (.ref a) { s with heap := h, toks := tk } := by
  refine hret _ ((g.src, o') :: (g.due, listOf its' n') :: clean g.fr fr') _ _ F (fun p m => N p (hs.sub p ?_)) ⟨o', its', n', ext, clean g.fr fr', rfl, ho, Grow.clean, hi, he, ⟨_, rfl⟩, (hv.le hn).mono SubT.clean⟩
  rcases List.mem_cons.mp m with rfl | m
  · exact .head _
  · rcases List.mem_cons.mp m with rfl | m
    · exact .tail _ hd
    · exact .tail _ (sb.clean p m)
theorem ints_app {its : Array Value} {l a b : List Int} (h : IntsAre its.toList ((l ++ a) ++ b)) : IntsAre its.toList (l ++ (a ++ b)) := by rwa [← List.append_assoc]
section
variable {l : Led} {a q r z : Addr} {t u x : Tok} {pv : Value} {ty : Ty} {rt : Option Nat} {b : Bool} {d j : Nat} {ext : List Int} {vs : List Value} {vv : Addr}
theorem st_set0 (m : (a, tupO [.str (Str.ofString "set") t, .int 0 u, .ref r, .ref q]) ∈ l) (hr : (r, tupO vs) ∈ l) (hvs : vs = [pv] ∨ vs = [pv, .none]) (hq : (q, tupO [.ref vv]) ∈ l) (hP : PlaceIn l pv ty rt b d) (hd : d ≤ 3) (f : Fnd l (.ref vv) ext 60)
    (e : b = true ∨ rt = none) : Fnd l (.ref a) ext 120 := st_set m hr hvs hq hP hd f (by rcases e with rfl | rfl <;> simp [rootL])
theorem st_set1 (m : (a, tupO [.str (Str.ofString "set") t, .int 0 u, .ref r, .ref q]) ∈ l) (hr : (r, tupO vs) ∈ l) (hvs : vs = [pv] ∨ vs = [pv, .none]) (hq : (q, tupO [.ref vv]) ∈ l) (hP : PlaceIn l pv ty (some j) b d) (hd : d ≤ 3) (f : Fnd l (.ref vv) ext 60)
    (e : b = false) : Fnd l (.ref a) ([(j : Int)] ++ ext) 120 := st_set m hr hvs hq hP hd f (by subst e; simp [rootL])
theorem st_update0 (m : (a, tupO [.str (Str.ofString "update") t, .int 0 u, .str (Str.ofString "+") x, pv, .ref vv]) ∈ l) (hP : PlaceIn l pv ty rt b d) (hd : d ≤ 3) (f : Fnd l (.ref vv) ext 60) (e : b = true ∨ rt = none) : Fnd l (.ref a) ext 120 :=
  st_update m hP hd f (by rcases e with rfl | rfl <;> simp [rootL])
theorem st_update1 (m : (a, tupO [.str (Str.ofString "update") t, .int 0 u, .str (Str.ofString "+") x, pv, .ref vv]) ∈ l) (hP : PlaceIn l pv ty (some j) b d) (hd : d ≤ 3) (f : Fnd l (.ref vv) ext 60) (e : b = false) : Fnd l (.ref a) ([(j : Int)] ++ ext) 120 :=
  st_update m hP hd f (by subst e; simp [rootL])
theorem st_if' {ak bl c bt tq : Addr} {lv : Value} {n : Nat} {ys : List Value} {t1 t2 t3 t4 t5 t6 t7 t8 : Tok} {nn : Int} (m : (a, tupO [.str (Str.ofString "if") t, .int 0 u, .ref ak, .ref bl, .none]) ∈ l)
    (m1 : (ak, tupO [.str (Str.ofString "binary") t1, .ref bt, .int 0 t2, .str (Str.ofString "<") t3, lv, .ref c]) ∈ l) (hb : (bt, tupO [.str (Str.ofString "bool") t4]) ∈ l) (f : FlatIn l lv) (hc : (c, tupO [.str (Str.ofString "const") t5, .ref 228, .int 0 t6, .int nn t7]) ∈ l)
    (m2 : (bl, tupO [.str (Str.ofString "block") t8, .int 0 x, .ref tq]) ∈ l) (hq : (tq, tupO ys) ∈ l) (hr : allRefs ys) (h1 : 1 ≤ ys.length) (g : FndAll l ys ext n) : Fnd l (.ref a) ext (n + 2 + 17) := st_if m (st_asked m1 hb f hc) (st_block m2 hq hr h1 g)
theorem st_for' {ak bl c bt tq e up u1 c1 : Addr} {lv lw : Value} {k : Int} {n i : Nat} {ys : List Value} {t0 t1 t2 t3 t4 t5 t6 t7 t8 t9 t10 t11 t12 t13 t14 : Tok} {nn nm : Int} (m : (a, tupO [.str (Str.ofString "for") t, .int 0 u, .int k t0, .ref e, .ref ak, .ref up, .ref bl]) ∈ l)
    (m1 : (ak, tupO [.str (Str.ofString "binary") t1, .ref bt, .int 0 t2, .str (Str.ofString "<") t3, lv, .ref c]) ∈ l) (hb : (bt, tupO [.str (Str.ofString "bool") t4]) ∈ l) (f : FlatIn l lv) (hc : (c, tupO [.str (Str.ofString "const") t5, .ref 228, .int 0 t6, .int nn t7]) ∈ l)
    (m2 : (bl, tupO [.str (Str.ofString "block") t8, .int 0 x, .ref tq]) ∈ l) (hq : (tq, tupO ys) ∈ l) (hr : allRefs ys) (h1 : 1 ≤ ys.length) (g : FndAll l ys ext n)
    (he : (e, tupO []) ∈ l) (hu : (up, tupO [.ref u1]) ∈ l) (m3 : (u1, tupO [.str (Str.ofString "update") t9, .int 0 t10, .str (Str.ofString "+") t11, lw, .ref c1]) ∈ l) (hP : PlaceIn l lw ty (some i) true 0) (hc1 : (c1, tupO [.str (Str.ofString "const") t12, .ref 228, .int 0 t13, .int nm t14]) ∈ l) : Fnd l (.ref a) ext (n + 2 + 34) :=
  st_for m he (st_asked m1 hb f hc) hu (st_step m3 hP hc1) (st_block m2 hq hr h1 g)
end

end
theorem ln14 : True := by
  k_with_none
  k_with "eval Name" => (k_here; (with_reducible show wpAny _ _ (eval (PySem.Expr.Name _ _) (envOf _ _ _ _ _)) _ _ _); name_kind "globalImplicit"; k_dflt ((with_reducible refine' name_K ?k0Qz ?k1Qz ?k2Qz ?k3Qz ?_ ?aQz ?bQz ?cQz); (case k0Qz => with_reducible assumption); (case k1Qz => with_reducible assumption); (case k2Qz => k_asm); (case k3Qz => k_is); (case aQz => exact rfl); (case bQz => kernel_rfl!); (case cQz => decide +kernel); k_whole))
  k_with "eval Name" => (k_here; (with_reducible show wpAny _ _ (eval (PySem.Expr.Name _ _) (envOf _ _ _ _ _)) _ _ _); name_kind "globalImplicit"; name_is_builtin; k_dflt ((with_reducible refine' name_B ?k0Qz ?k1Qz ?k2Qz ?k3Qz ?k4Qz ?k5Qz ?_ ?aQz ?bQz ?cQz); (case k0Qz => with_reducible assumption); (case k1Qz => with_reducible assumption); (case k2Qz => k_asm); (case k3Qz => k_is); (case k4Qz => boot_fast); (case k5Qz => decide +kernel); (case aQz => exact rfl); (case bQz => kernel_rfl!); (case cQz => decide +kernel); k_whole))
  k_with "eval Name" => (k_here; (with_reducible show wpAny _ _ (eval (PySem.Expr.Name _ _) (envOf _ _ _ _ _)) _ _ _); name_kind "local"; k_dflt ((with_reducible refine' ld ?k1Qz ?k2Qz ?_ ?aQz ?bQz ?cQz); (case k1Qz => with_reducible assumption); (case aQz => exact rfl); (case bQz => kernel_rfl!); (case cQz => decide +kernel); (case k2Qz => exact rfl); k_whole))
  k_with "eval Name" => (k_here; (with_reducible show wpAny _ _ (eval (PySem.Expr.Name _ _) (envOfC _ _ _ _ _)) _ _ _); k_dflt first | (name_kind "local"; (with_reducible refine' nameC_L ?FQz ?vQz ?_ ?aQz ?bQz ?cQz); (case FQz => with_reducible assumption); (case aQz => exact rfl); (case bQz => kernel_rfl!); (case cQz => decide +kernel); (case vQz => first | exact rfl | assumption); k_whole) | (name_kind "cell"; (with_reducible refine' nameC_C ?NQz ?kQz ?mQz ?dQz ?_ ?aQz ?bQz ?cQz); (case aQz => exact rfl); (case bQz => kernel_rfl!); (case cQz => decide +kernel); (case NQz => with_reducible assumption); (case kQz => exact rfl); (case mQz => k_mem); (case dQz => k_asm); k_whole) | (name_kind "globalImplicit"; name_is_builtin; (with_reducible refine' nameC_B ?FQz ?XQz ?TQz ?eQz ?vQz ?nQz ?_ ?aQz ?bQz ?cQz); (case FQz => with_reducible assumption); (case XQz => with_reducible assumption); (case TQz => k_asm); (case aQz => exact rfl); (case bQz => kernel_rfl!); (case cQz => decide +kernel); (case eQz => k_is); (case vQz => boot_fast); (case nQz => decide +kernel); k_whole) | (name_kind "globalImplicit"; (with_reducible refine' nameC_K ?FQz ?XQz ?TQz ?eQz ?_ ?aQz ?bQz ?cQz); (case FQz => with_reducible assumption); (case XQz => with_reducible assumption); (case TQz => k_asm); (case aQz => exact rfl); (case bQz => kernel_rfl!); (case cQz => decide +kernel); (case eQz => k_is); k_whole))
  k_with "eval Name" => (k_here; (with_reducible show wpAny _ _ (eval (PySem.Expr.Name _ _) (compEnvC _ _ _ _)) _ _ _); k_dflt first | (name_kind "local"; (with_reducible refine' LCgL.ld_own ?NQz ?mQz ?CQz ?xQz ?_ ?aQz ?bQz ?cQz); (case NQz => with_reducible assumption); (case mQz => k_mem); (case CQz => with_reducible assumption); (case xQz => assumption); (case aQz => exact rfl); (case bQz => kernel_rfl!); (case cQz => decide +kernel); k_whole) | (name_kind "globalImplicit"; name_is_builtin; (with_reducible refine' LCgL.ld_built ?FQz ?XQz ?TQz ?eQz ?vQz ?nQz ?_ ?gQz ?hQz ?aQz ?bQz ?cQz); (case FQz => with_reducible assumption); (case XQz => with_reducible assumption); (case TQz => with_reducible assumption); (case gQz => exact rfl); (case hQz => exact rfl); (case aQz => exact rfl); (case bQz => kernel_rfl!); (case cQz => decide +kernel); (case eQz => k_is); (case vQz => boot_fast); (case nQz => decide +kernel); k_whole) | (name_kind "globalImplicit"; (with_reducible refine' LCgL.ld_global ?FQz ?XQz ?TQz ?eQz ?_ ?gQz ?aQz ?bQz ?cQz); (case FQz => with_reducible assumption); (case XQz => with_reducible assumption); (case TQz => with_reducible assumption); (case gQz => exact rfl); (case aQz => exact rfl); (case bQz => kernel_rfl!); (case cQz => decide +kernel); (case eQz => k_is); k_whole) | (name_kind "free"; (with_reducible refine' lcf_free ?NQz ?kQz ?mQz ?dQz ?_ ?aQz ?bQz ?cQz ?eQz); (case aQz => exact rfl); (case bQz => kernel_rfl!); (case cQz => decide +kernel); (case eQz => decide +kernel); (case NQz => with_reducible assumption); (case kQz => exact rfl); (case mQz => k_mem); (case dQz => k_asm); k_whole))
  k_with "newTuple" => (k_here; k_dflt ((with_reducible refine' kup_newTuple ?FQz ?NQz ?_ ?zQz); (case FQz => with_reducible assumption); (case NQz => with_reducible assumption); (case zQz => first | exact Nat.le_of_ble_eq_true rfl | kmk_size)); intro D'e5 h'e5 F'e5 N'e5 l1e5; (try k_sweep))
  k_with "newList" => (k_here; k_dflt ((with_reducible refine' newList_K ?FQz ?NQz ?_ ?zQz); (case FQz => with_reducible assumption); (case NQz => with_reducible assumption); (case zQz => first | exact Nat.le_of_ble_eq_true rfl | size_fits)); intro D'e6 h'e6 F'e6 N'e6 l1e6; (try k_sweep))
  k_with "And" => ((with_reducible show Frag.In _ _ ∧ _); refine' And.intro ?kQz ?_; (case kQz => k_dflt (first | with_reducible assumption | (refine' Frag.In.keeps ?xQz (Fr.keep ?fQz); (case fQz => with_reducible assumption); (case xQz => with_reducible assumption)) | k_in)); (try dsimp only [List.nil_append, List.cons_append]))
  k_with "execs cons" => (k_here; (try k_gentoks); (with_reducible refine' wpAny_execs_cons ?_); (try dsimp only); (try k_fold))
  k_with "ite" => (k_closed; first | (with_reducible refine' ite_tt ?_) | (with_reducible refine' ite_ff ?_) | ((with_reducible refine' ite_neg ?hQz ?_); (case hQz => decide +kernel)) | ((with_reducible refine' ite_pos ?hQz ?_); (case hQz => decide +kernel)))
  k_with "spliced" => k_dflt ((first | (with_reducible refine' args_cons (env := envOf _ _ _ _ _) ?_ ?heQz) | (with_reducible refine' args_cons (env := envOfC _ _ _ _ _) ?_ ?heQz)); (case heQz => exact rfl))
  k_with "eval Call" => k_dflt ((first | (with_reducible refine' Call_ (env := envOf _ _ _ _ _) ?_ ?heQz) | (with_reducible refine' Call_ (env := envOfC _ _ _ _ _) ?_ ?heQz)); (case heQz => exact rfl))
  k_with "exec Assign" => k_dflt ((first | (with_reducible refine' wpAny_Assign_Name (env := envOf _ _ _ _ _) ?_ ?heQz) | (with_reducible refine' wpAny_Assign_Name (env := envOfC _ _ _ _ _) ?_ ?heQz)); (case heQz => exact rfl); (try k_fold))
  k_with "callWith ref" => (k_here; k_dflt first | ((with_reducible refine' callWith_K ?k1Qz ?k2Qz ?_ ?heQz ?hpQz); (case k1Qz => with_reducible assumption); (case k2Qz => k_is); (case heQz => exact rfl); (case hpQz => exact rfl); k_whole) | ((with_reducible refine' callWith_K0 ?k1Qz ?k2Qz ?_); (case k1Qz => (first | with_reducible assumption | (refine' Frag.In.keeps ?xQz (Fr.keep ?fQz); (case fQz => with_reducible assumption); (case xQz => with_reducible assumption)) | k_in)); (case k2Qz => k_is); k_whole))
  k_with "storeName" => (k_here; k_dflt first | ((with_reducible refine' stN ?FQz ?NQz ?_ ?aQz ?bQz); (case FQz => with_reducible assumption); (case NQz => with_reducible assumption); (case aQz => exact rfl); (case bQz => kernel_rfl!); k_whole; intro h'e14 F'e14 N'e14; (try k_sweep)) | (name_kind "local"; (with_reducible refine' storeC_L ?FQz ?NQz ?_ ?aQz ?bQz); (case FQz => with_reducible assumption); (case NQz => with_reducible assumption); (case aQz => exact rfl); (case bQz => kernel_rfl!); k_whole; intro h'e14 F'e14 N'e14; (try k_sweep)))
  k_with "mine room" => first | exact Nat.le_of_ble_eq_true rfl | ((try simp only [recursionLimit]); (try dsimp only [Around.deeper, Around.in1, Around.mark, rnd]); first | exact room_le (by with_reducible assumption) rfl | omega) | fail "mine"
  k_with "mine enter" => (refine wpAny_call ?_; k_dflt ((with_reducible refine' code_def ?k1Qz ?k2Qz ?k3Qz ?k4Qz ?k5Qz ?kAQz ?kFQz ?kKQz ?k6Qz ?k7Qz ?k8Qz ?k9Qz ?kBQz ?_ ?c2Qz ?c3Qz ?c4Qz ?c5Qz); (case kAQz => exact rfl); (case kFQz => assumption); (case kKQz => assumption); (case k1Qz => k_asm); (case k2Qz => k_asm); (case k3Qz => k_asm); (case k4Qz => k_asm); (case k5Qz => k_asm); (case k6Qz => k_is); (case k7Qz => k_is); (case k8Qz => ktr_room); (case k9Qz => exact BindsTo.of_eq rfl); (case c5Qz => decide); (case kBQz => exact locs rfl); (case c2Qz => exact rfl); (case c3Qz => exact rfl); (case c4Qz => exact rfl); k_whole; intro g'e16 L'e16 h'e16 FG'e16 F'e16 N'e16 B'e16 X'e16 T'e16; (try dsimp only); (try k_fold)))
  k_with "mine pick" => first | exact Pick.head | (refine' Pick.tail ?pkQz; (case pkQz => k_extra "mine pick")) | fail "mine"
  k_with "mine mem" => first | with_reducible assumption | exact mem_hd | (refine' mem_tl ?pmQz; (case pmQz => k_extra "mine mem")) | (refine' Sub.mem ?pgQz ?pmQz; (case pgQz => with_reducible assumption); (case pmQz => k_extra "mine mem")) | (refine' Grow.mem ?pgQz ?pmQz; (case pgQz => with_reducible assumption); (case pmQz => k_extra "mine mem")) | fail "mine"
  k_with "mine at" => first | (with_reducible exact at_hd) | ((with_reducible refine' at_tl ?pmQz); (case pmQz => k_extra "mine at")) | fail "mine"
  k_with "mine pj" => first | with_reducible assumption | exact pj_l (by with_reducible assumption) | exact pj_l (pj_r (by with_reducible assumption)) | exact pj_r (by with_reducible assumption) | exact pj_l (pj_2 (by with_reducible assumption)) | exact pj_2 (by with_reducible assumption) | exact pj_l (pj_2 (pj_r (by with_reducible assumption))) | exact pj_2 (pj_r (by with_reducible assumption)) | exact pj_l (pj_4 (by with_reducible assumption)) | exact pj_4 (by with_reducible assumption) | exact pj_l (pj_4 (pj_r (by with_reducible assumption))) | exact pj_4 (pj_r (by with_reducible assumption)) | exact pj_l (pj_4 (pj_2 (by with_reducible assumption))) | exact pj_4 (pj_2 (by with_reducible assumption)) | exact pj_l (pj_4 (pj_2 (pj_r (by with_reducible assumption)))) | exact pj_4 (pj_2 (pj_r (by with_reducible assumption))) | exact pj_l (pj_8 (by with_reducible assumption)) | exact pj_8 (by with_reducible assumption) | exact pj_l (pj_8 (pj_r (by with_reducible assumption))) | exact pj_8 (pj_r (by with_reducible assumption)) | exact pj_l (pj_8 (pj_2 (by with_reducible assumption))) | exact pj_8 (pj_2 (by with_reducible assumption)) | exact pj_l (pj_8 (pj_2 (pj_r (by with_reducible assumption)))) | exact pj_8 (pj_2 (pj_r (by with_reducible assumption))) | exact pj_l (pj_8 (pj_4 (by with_reducible assumption))) | exact pj_8 (pj_4 (by with_reducible assumption)) | exact pj_l (pj_8 (pj_4 (pj_r (by with_reducible assumption)))) | exact pj_8 (pj_4 (pj_r (by with_reducible assumption))) | exact pj_l (pj_8 (pj_4 (pj_2 (by with_reducible assumption)))) | exact pj_8 (pj_4 (pj_2 (by with_reducible assumption))) | exact pj_l (pj_8 (pj_4 (pj_2 (pj_r (by with_reducible assumption))))) | exact pj_8 (pj_4 (pj_2 (pj_r (by with_reducible assumption)))) | exact pj_l (pj_16 (by with_reducible assumption)) | exact pj_16 (by with_reducible assumption) | exact pj_l (pj_16 (pj_r (by with_reducible assumption))) | exact pj_16 (pj_r (by with_reducible assumption)) | exact pj_l (pj_16 (pj_2 (by with_reducible assumption))) | exact pj_16 (pj_2 (by with_reducible assumption)) | exact pj_l (pj_16 (pj_2 (pj_r (by with_reducible assumption)))) | exact pj_16 (pj_2 (pj_r (by with_reducible assumption))) | exact pj_l (pj_16 (pj_4 (by with_reducible assumption))) | exact pj_16 (pj_4 (by with_reducible assumption)) | exact pj_l (pj_16 (pj_4 (pj_r (by with_reducible assumption)))) | exact pj_16 (pj_4 (pj_r (by with_reducible assumption))) | exact pj_l (pj_16 (pj_4 (pj_2 (by with_reducible assumption)))) | exact pj_16 (pj_4 (pj_2 (by with_reducible assumption))) | exact pj_l (pj_16 (pj_4 (pj_2 (pj_r (by with_reducible assumption))))) | exact pj_16 (pj_4 (pj_2 (pj_r (by with_reducible assumption)))) | exact pj_l (pj_16 (pj_8 (by with_reducible assumption))) | exact pj_16 (pj_8 (by with_reducible assumption)) | exact pj_l (pj_16 (pj_8 (pj_r (by with_reducible assumption)))) | exact pj_16 (pj_8 (pj_r (by with_reducible assumption))) | exact pj_l (pj_16 (pj_8 (pj_2 (by with_reducible assumption)))) | exact pj_16 (pj_8 (pj_2 (by with_reducible assumption))) | exact pj_l (pj_16 (pj_8 (pj_2 (pj_r (by with_reducible assumption))))) | exact pj_16 (pj_8 (pj_2 (pj_r (by with_reducible assumption)))) | exact pj_l (pj_16 (pj_8 (pj_4 (by with_reducible assumption)))) | exact pj_16 (pj_8 (pj_4 (by with_reducible assumption))) | exact pj_l (pj_16 (pj_8 (pj_4 (pj_r (by with_reducible assumption))))) | exact pj_16 (pj_8 (pj_4 (pj_r (by with_reducible assumption)))) | exact pj_l (pj_16 (pj_8 (pj_4 (pj_2 (by with_reducible assumption))))) | exact pj_16 (pj_8 (pj_4 (pj_2 (by with_reducible assumption)))) | exact pj_l (pj_16 (pj_8 (pj_4 (pj_2 (pj_r (by with_reducible assumption)))))) | exact pj_16 (pj_8 (pj_4 (pj_2 (pj_r (by with_reducible assumption))))) | fail "mine"
  k_with "mine new" => first | ((with_reducible refine' ne_new ?hQz ?mQz); (case hQz => with_reducible assumption); (case mQz => k_extra "mine at")) | ((with_reducible refine' ne_new' ?hQz ?mQz); (case hQz => with_reducible assumption); (case mQz => k_extra "mine at")) | ((with_reducible refine' Nat.ne_of_lt ?hQz); (case hQz => k_extra "mine pj")) | ((with_reducible refine' Nat.ne_of_gt ?hQz); (case hQz => k_extra "mine pj")) | fail "mine"
  k_with "mine ne" => first | assumption | (refine Ne.symm ?_; assumption) | k_extra "mine new" | (refine neN ?_; (try dsimp only); first | k_extra "mine new" | omega) | fail "mine"
  k_with "mine off" => first | with_reducible assumption | exact Off.nil | (refine Off.tup ?_; k_extra "mine off") | (refine Off.ne ?_ ?_; (k_extra "mine ne"); (k_extra "mine off")) | fail "mine"
  k_with "mine sub" => first | with_reducible assumption | exact Sub.refl | (refine Sub.tl ?_; k_extra "mine sub") | (refine' Sub.gr ?pgQz ?pkQz; (case pgQz => with_reducible assumption); (case pkQz => k_extra "mine sub")) | fail "mine"
  k_with "call ref" => (k_here; (with_reducible show wpAny _ _ (call (Value.ref 220) [Value.ref _, Value.int _ _]) _ _ _); k_dflt ((with_reducible refine' take_use ?k1Qz ?k2Qz ?k3Qz ?k4Qz ?k5Qz ?a3Qz ?hfQz ?hkQz ?a1Qz ?a2Qz ?a4Qz ?hsQz ?hoQz ?htQz ?offQz ?_); (case k1Qz => k_asm); (case k2Qz => k_asm); (case k3Qz => k_asm); (case k4Qz => k_asm); (case k5Qz => k_asm); (case a3Qz => exact rfl); (case hfQz => exact rfl); (case hkQz => exact rfl); (case a1Qz => exact rfl); (case a2Qz => k_extra "mine room"); (case a4Qz => k_extra "mine room"); (case hoQz => assumption); (case hsQz => k_extra "mine pick"); (case htQz => exact ⟨by decide, by decide⟩); (case offQz => k_extra "mine off")); intro d'e34 td'e34 o'e34 h'e34 tk'e34 hd0e34 hd1e34 ho'e34 F'e34 N'e34; (try dsimp only); (try k_sweep); (try k_fold))
  k_with "call ref" => (k_here; (with_reducible show wpAny _ _ (call (Value.ref 245) _) _ _ _); (k_dflt (show wpAny _ _ (call (Value.ref 245) []) _ _ _)); k_dflt ((first | with_reducible refine' types_use ?k1Qz ?k2Qz ?k3Qz ?k4Qz ?k5Qz ?a3Qz ?hfQz ?hkQz ?a1Qz ?a2Qz ?a4Qz ?hsQz ?hoQz ?offQz ?_ | refine' types_use ?k1Qz ?k2Qz ?k3Qz ?k4Qz ?k5Qz ?a3Qz ?hfQz ?hkQz ?a1Qz ?a2Qz ?a4Qz ?hsQz ?hoQz ?offQz ?_); (case k1Qz => k_asm); (case k2Qz => k_asm); (case k3Qz => k_asm); (case k4Qz => k_asm); (case k5Qz => k_asm); (case a3Qz => exact rfl); (case hfQz => first | exact rfl | assumption); (case hkQz => first | exact rfl | assumption); (case a1Qz => exact rfl); (case a2Qz => k_extra "mine room"); (case a4Qz => k_extra "mine room"); (case hoQz => assumption); (case hsQz => k_extra "mine pick"); (case offQz => k_extra "mine off")); intro l'e51 vs'e51 n'e51 fr'e51 h'e51 tk'e51 hg'e51 hoff'e51 hne'e51 hT'e51 F'e51 N'e51; (try dsimp only); (try k_sweep); (try k_fold))
  k_with "subscriptTail" => (k_here; (with_reducible show wpAny _ _ (subscriptTail _ _ (Value.ref _) (Value.int _ _)) _ _ _); (with_reducible rename TypesAre _ _ => hT9e36); k_dflt ((first | with_reducible refine' types_item ?k1Qz ?k2Qz hT9e36 ?k3Qz ?k4Qz ?_ ?k6Qz | refine' types_item ?k1Qz ?k2Qz hT9e36 ?k3Qz ?k4Qz ?_ ?k6Qz); (case k1Qz => k_asm); (case k2Qz => k_mem); (case k3Qz => first | assumption | decide); (case k4Qz => first | assumption | decide); (case k6Qz => with_unfolding_all rfl)); intro v'e36 hv'e36; (try dsimp only); (try k_fold))
  k_with "subscriptTail Name Constant ref int" => (k_here; (with_reducible show wpAny _ _ (subscriptTail _ _ (Value.ref _) (Value.int _ _)) _ _ _); (with_reducible rename TypesAre _ _ => hT9e37); k_dflt ((first | with_reducible refine' types_item ?k1Qz ?k2Qz hT9e37 ?k3Qz ?k4Qz ?_ ?k6Qz | refine' types_item ?k1Qz ?k2Qz hT9e37 ?k3Qz ?k4Qz ?_ ?k6Qz); (case k1Qz => k_asm); (case k2Qz => k_mem); (case k3Qz => first | assumption | decide); (case k4Qz => first | assumption | decide); (case k6Qz => with_unfolding_all rfl)); intro v'e37 hv'e37; (try dsimp only); (try k_fold))
  k_with "call ref" => (k_here; (with_reducible show wpAny _ _ (call (Value.ref 252) [Value.int _ _]) _ _ _); k_dflt ((first | with_reducible refine' local_use ?k1Qz ?k2Qz ?k3Qz ?k4Qz ?k5Qz ?a3Qz ?hfQz ?hkQz ?a1Qz ?a2Qz ?a4Qz ?hsQz ?hoQz ?offQz ?hnQz ?hn2Qz ?_ | refine' local_use ?k1Qz ?k2Qz ?k3Qz ?k4Qz ?k5Qz ?a3Qz ?hfQz ?hkQz ?a1Qz ?a2Qz ?a4Qz ?hsQz ?hoQz ?offQz ?hnQz ?hn2Qz ?_); (case k1Qz => k_asm); (case k2Qz => k_asm); (case k3Qz => k_asm); (case k4Qz => k_asm); (case k5Qz => k_asm); (case a3Qz => exact rfl); (case hfQz => first | exact rfl | assumption); (case hkQz => first | exact rfl | assumption); (case a1Qz => exact rfl); (case a2Qz => k_extra "mine room"); (case a4Qz => k_extra "mine room"); (case hoQz => assumption); (case hsQz => k_extra "mine pick"); (case offQz => k_extra "mine off"); (case hnQz => first | assumption | decide); (case hn2Qz => first | assumption | decide)); intro v'e52 fr'e52 h'e52 tk'e52 hg'e52 hoff'e52 hP'e52 hF'e52 F'e52 N'e52; (try dsimp only); (try k_sweep); (try k_fold))
  k_with "mine subt" => first | exact SubT.refl | with_reducible assumption | (refine' SubT.tl ?pkQz; (case pkQz => k_extra "mine subt")) | (refine' SubT.gr ?pgQz ?pkQz; (case pgQz => with_reducible assumption); (case pkQz => k_extra "mine subt")) | (refine' SubT.sb ?pgQz ?pkQz; (case pgQz => with_reducible assumption); (case pkQz => k_extra "mine subt")) | fail "mine"
  k_with "mine rel" => first | with_reducible assumption | (refine' PlaceIn.up ?phQz ?psQz; (case phQz => with_reducible assumption); (case psQz => k_extra "mine subt")) | (refine' TyIn.up ?phQz ?psQz; (case phQz => with_reducible assumption); (case psQz => k_extra "mine subt")) | (refine' FlatIn.up ?phQz ?psQz; (case phQz => with_reducible assumption); (case psQz => k_extra "mine subt")) | fail "mine"
  k_with "compareOp Eq" => (k_here; (with_reducible show wpAny _ _ (compareOp CmpOp.Eq _ (Value.ref 238)) _ _ _); k_dflt ((first | with_reducible refine' ty_eq ?FQz ?XQz ?NQz ?TQz ?sbQz ?huQz ?_ | refine' ty_eq ?FQz ?XQz ?NQz ?TQz ?sbQz ?huQz ?_); (case FQz => k_asm); (case XQz => k_asm); (case NQz => k_asm); (case TQz => assumption); (case sbQz => k_extra "mine subt"); (case huQz => ke_room)); (rename TyIn _ _ _ => hT9e55); (cases hT9e55); all_goals (try dsimp only [Ty.isNamed]))
  k_with "subscriptTail Subscript Name Constant Name ref int" => (k_here; (with_reducible show wpAny _ _ (subscriptTail _ _ (Value.ref 236) (Value.int _ _)) _ _ _); (with_reducible rename _ < (2 : Int) => hB9e42); (with_reducible rename (0 : Int) ≤ _ => hA9e42); (rcases two_of hA9e42 hB9e42 with e9e42 | e9e42 <;> subst e9e42))
  k_with "subscriptTail" => (k_here; (with_reducible show wpAny _ _ (subscriptTail _ _ (Value.ref _) (Value.int _ _)) _ _ _); k_dflt ((first | with_reducible refine' tup_item ?k1Qz ?k2Qz ?k3Qz ?k4Qz ?k5Qz ?k6Qz ?_ ?k7Qz | refine' tup_item ?k1Qz ?k2Qz ?k3Qz ?k4Qz ?k5Qz ?k6Qz ?_ ?k7Qz); (case k1Qz => k_asm); (case k2Qz => k_extra "mine mem"); (case k3Qz => decide); (case k4Qz => decide); (case k5Qz => exact rfl); (case k6Qz => exact rfl); (case k7Qz => with_unfolding_all rfl)); (try dsimp only); (try k_fold))
  k_with "subscriptTail Name Constant ref int" => (k_here; (with_reducible show wpAny _ _ (subscriptTail _ _ (Value.ref _) (Value.int _ _)) _ _ _); k_dflt ((first | with_reducible refine' tup_item ?k1Qz ?k2Qz ?k3Qz ?k4Qz ?k5Qz ?k6Qz ?_ ?k7Qz | refine' tup_item ?k1Qz ?k2Qz ?k3Qz ?k4Qz ?k5Qz ?k6Qz ?_ ?k7Qz); (case k1Qz => k_asm); (case k2Qz => k_extra "mine mem"); (case k3Qz => decide); (case k4Qz => decide); (case k5Qz => exact rfl); (case k6Qz => exact rfl); (case k7Qz => with_unfolding_all rfl)); (try dsimp only); (try k_fold))
  k_with "subscriptTail" => (k_here; (with_reducible show wpAny _ _ (subscriptTail _ _ (Value.ref _) (Value.int _ _)) _ _ _); k_dflt ((first | with_reducible refine' topTup_K ?k1Qz ?k2Qz ?k3Qz ?kaQz ?kbQz ?kcQz ?kdQz ?_ ?k7Qz | refine' topTup_K ?k1Qz ?k2Qz ?k3Qz ?kaQz ?kbQz ?kcQz ?kdQz ?_ ?k7Qz); (case k2Qz => k_asm); (case k3Qz => k_is); (case k1Qz => k_asm); (case kaQz => decide); (case kbQz => decide); (case kcQz => exact rfl); (case kdQz => exact rfl); (case k7Qz => with_unfolding_all rfl)); (try dsimp only); (try k_fold))
  k_with "subscriptTail Name Constant ref int" => (k_here; (with_reducible show wpAny _ _ (subscriptTail _ _ (Value.ref _) (Value.int _ _)) _ _ _); k_dflt ((first | with_reducible refine' topTup_K ?k1Qz ?k2Qz ?k3Qz ?kaQz ?kbQz ?kcQz ?kdQz ?_ ?k7Qz | refine' topTup_K ?k1Qz ?k2Qz ?k3Qz ?kaQz ?kbQz ?kcQz ?kdQz ?_ ?k7Qz); (case k2Qz => k_asm); (case k3Qz => k_is); (case k1Qz => k_asm); (case kaQz => decide); (case kbQz => decide); (case kcQz => exact rfl); (case kdQz => exact rfl); (case k7Qz => with_unfolding_all rfl)); (try dsimp only); (try k_fold))
  k_with "subscriptTail Name Call ref int" => (k_here; (with_reducible show wpAny _ _ (subscriptTail _ _ (Value.ref _) (Value.int _ _)) _ _ _); k_dflt ((first | with_reducible refine' two_item ?k1Qz ?k2Qz ?ksQz ?koQz ?k3Qz ?k4Qz ?kxQz ?kyQz ?_ ?k7Qz | refine' two_item ?k1Qz ?k2Qz ?ksQz ?koQz ?k3Qz ?k4Qz ?kxQz ?kyQz ?_ ?k7Qz); (case k1Qz => k_asm); (case k2Qz => k_extra "mine mem"); (case koQz => assumption); (case ksQz => k_extra "mine pick"); (case k3Qz => assumption); (case k4Qz => assumption); (case kxQz => exact FlatIn.const (by k_extra "mine mem")); (case kyQz => k_extra "mine rel"); (case k7Qz => with_unfolding_all rfl)); intro v'e58 hF'e58; (try dsimp only); (try k_fold))
  k_with "call ref" => (k_here; (with_reducible show wpAny _ _ (call (Value.ref 220) [Value.ref _, Value.int 6 _]) _ _ _); k_dflt ((first | with_reducible refine' take_use ?k1Qz ?k2Qz ?k3Qz ?k4Qz ?k5Qz ?a3Qz ?hfQz ?hkQz ?a1Qz ?a2Qz ?a4Qz ?hsQz ?hoQz ?htQz ?offQz ?_ | refine' take_use ?k1Qz ?k2Qz ?k3Qz ?k4Qz ?k5Qz ?a3Qz ?hfQz ?hkQz ?a1Qz ?a2Qz ?a4Qz ?hsQz ?hoQz ?htQz ?offQz ?_); (case k1Qz => k_asm); (case k2Qz => k_asm); (case k3Qz => k_asm); (case k4Qz => k_asm); (case k5Qz => k_asm); (case a3Qz => exact rfl); (case hfQz => first | exact rfl | assumption); (case hkQz => first | exact rfl | assumption); (case a1Qz => exact rfl); (case a2Qz => k_extra "mine room"); (case a4Qz => k_extra "mine room"); (case hoQz => assumption); (case hsQz => k_extra "mine pick"); (case htQz => exact ⟨by decide, by decide⟩); (case offQz => k_extra "mine off")); intro d'e66 td'e66 o'e66 h'e66 tk'e66 hd0e66 hd1e66 ho'e66 F'e66 N'e66; (rcases four_of hd0e66 hd1e66 with e9e66 | e9e66 | e9e66 | ⟨ea9e66, eb9e66, ec9e66, ed9e66, ee9e66, ef9e66⟩ <;> (try (subst e9e66; clear hd0e66 hd1e66))); all_goals ((try dsimp only); (try k_sweep); (try k_fold)))
  k_with "call ref" => (k_here; (with_reducible show wpAny _ _ (call (Value.ref 266) [_]) _ _ _); k_dflt ((first | with_reducible refine' kind_use ?k1Qz ?k2Qz ?k3Qz ?k4Qz ?k5Qz ?a3Qz ?hfQz ?hkQz ?a1Qz ?a2Qz ?a4Qz ?hTQz ?sbQz ?_ | refine' kind_use ?k1Qz ?k2Qz ?k3Qz ?k4Qz ?k5Qz ?a3Qz ?hfQz ?hkQz ?a1Qz ?a2Qz ?a4Qz ?hTQz ?sbQz ?_); (case k1Qz => k_asm); (case k2Qz => k_asm); (case k3Qz => k_asm); (case k4Qz => k_asm); (case k5Qz => k_asm); (case a3Qz => exact rfl); (case hfQz => first | exact rfl | assumption); (case hkQz => first | exact rfl | assumption); (case a1Qz => exact rfl); (case a2Qz => k_extra "mine room"); (case a4Qz => k_extra "mine room"); (case hTQz => assumption); (case sbQz => k_extra "mine subt")); intro t'e67 h'e67 tk'e67 F'e67 N'e67; (try k_sweep); (first | ((rename (kindS _ = _) => hk9e67); (simp only [hk9e67])) | ((rename Ty => ty9e67); (rcases kind5 ty9e67 with ⟨hk9e67, ha9e67⟩ | ⟨hk9e67, ha9e67⟩ | ⟨hk9e67, ha9e67⟩ | ⟨hk9e67, ha9e67⟩ | ⟨hk9e67, ha9e67⟩ <;> (simp only [hk9e67])))); all_goals (try k_fold))
  k_with "call ref" => (k_here; (with_reducible show wpAny _ _ (call (Value.ref 259) [Value.ref _]) _ _ _); k_dflt ((first | with_reducible refine' place_use ?k1Qz ?k2Qz ?k3Qz ?k4Qz ?k5Qz ?a3Qz ?hfQz ?hkQz ?a1Qz ?a2Qz ?a4Qz ?hneQz ?hoQz ?hsQz ?hs2Qz ?hdQz ?offQz ?off2Qz ?_ | refine' place_use ?k1Qz ?k2Qz ?k3Qz ?k4Qz ?k5Qz ?a3Qz ?hfQz ?hkQz ?a1Qz ?a2Qz ?a4Qz ?hneQz ?hoQz ?hsQz ?hs2Qz ?hdQz ?offQz ?off2Qz ?_); (case k1Qz => k_asm); (case k2Qz => k_asm); (case k3Qz => k_asm); (case k4Qz => k_asm); (case k5Qz => k_asm); (case a3Qz => exact rfl); (case hfQz => first | exact rfl | assumption); (case hkQz => first | exact rfl | assumption); (case a1Qz => exact rfl); (case a2Qz => k_extra "mine room"); (case a4Qz => k_extra "mine room"); (case hoQz => assumption); (case hsQz => k_extra "mine pick"); (case hneQz => assumption); (case hs2Qz => k_extra "mine pick"); (case hdQz => exact rfl); (case offQz => k_extra "mine off"); (case off2Qz => k_extra "mine off")); intro o'e68 a'e68 p'e68 rv'e68 ty'e68 r'e68 b'e68 d'e68 fr'e68 h'e68 tk'e68 ho'e68 hg'e68 hoff'e68 hoff2'e68 hm'e68 hP'e68 hR'e68 hd'e68 F'e68 N'e68; (cases r'e68 <;> (dsimp only [RootV] at hR'e68) <;> (first | subst hR'e68 | (obtain ⟨rt'e68, hR'e68⟩ := hR'e68; subst hR'e68))); all_goals ((try dsimp only); (try k_sweep); (try k_fold)))
  k_with "call ref" => (k_here; (with_reducible show wpAny _ _ (call (Value.ref 252) [Value.int _ _]) _ _ _); k_dflt ((first | with_reducible refine' local_use2 ?k1Qz ?k2Qz ?k3Qz ?k4Qz ?k5Qz ?a3Qz ?hfQz ?hkQz ?a1Qz ?a2Qz ?a4Qz ?hneQz ?hoQz ?hsQz ?hs2Qz ?hdQz ?offQz ?off2Qz ?hnQz ?hn2Qz ?_ | refine' local_use2 ?k1Qz ?k2Qz ?k3Qz ?k4Qz ?k5Qz ?a3Qz ?hfQz ?hkQz ?a1Qz ?a2Qz ?a4Qz ?hneQz ?hoQz ?hsQz ?hs2Qz ?hdQz ?offQz ?off2Qz ?hnQz ?hn2Qz ?_); (case k1Qz => k_asm); (case k2Qz => k_asm); (case k3Qz => k_asm); (case k4Qz => k_asm); (case k5Qz => k_asm); (case a3Qz => exact rfl); (case hfQz => first | exact rfl | assumption); (case hkQz => first | exact rfl | assumption); (case a1Qz => exact rfl); (case a2Qz => k_extra "mine room"); (case a4Qz => k_extra "mine room"); (case hoQz => assumption); (case hsQz => k_extra "mine pick"); (case hneQz => assumption); (case hs2Qz => k_extra "mine pick"); (case hdQz => exact rfl); (case offQz => k_extra "mine off"); (case off2Qz => k_extra "mine off"); (case hnQz => first | assumption | decide); (case hn2Qz => first | assumption | decide)); intro v'e69 fr'e69 h'e69 tk'e69 hg'e69 hoff'e69 hoff2'e69 hP'e69 hF'e69 F'e69 N'e69; (try dsimp only); (try k_sweep); (try k_fold))
  k_with "subscriptTail" => (k_here; (with_reducible show wpAny _ _ (subscriptTail _ _ (Value.ref _) (Value.int 1 _)) _ _ _); k_dflt ((first | with_reducible refine' place_ty ?k1Qz ?hPQz ?stQz ?_ ?k7Qz | refine' place_ty ?k1Qz ?hPQz ?stQz ?_ ?k7Qz); (case hPQz => with_reducible assumption); (case k1Qz => k_asm); (case stQz => k_extra "mine subt"); (case k7Qz => with_unfolding_all rfl)); intro tv'e70 hT'e70; (try dsimp only); (try k_fold))
  k_with "subscriptTail Name Constant ref int" => (k_here; (with_reducible show wpAny _ _ (subscriptTail _ _ (Value.ref _) (Value.int 1 _)) _ _ _); k_dflt ((first | with_reducible refine' place_ty ?k1Qz ?hPQz ?stQz ?_ ?k7Qz | refine' place_ty ?k1Qz ?hPQz ?stQz ?_ ?k7Qz); (case hPQz => with_reducible assumption); (case k1Qz => k_asm); (case stQz => k_extra "mine subt"); (case k7Qz => with_unfolding_all rfl)); intro tv'e71 hT'e71; (try dsimp only); (try k_fold))
  k_with "call builtin:list.append" => (k_here; (with_reducible show wpAny _ _ (call (Value.builtin _) [Value.ref _, Value.int _ _]) _ _ _); (with_reducible rename IntsAre _ _ => hi9e72); k_dflt ((first | with_reducible refine' due_append ?FQz ?NQz ?hsQz hi9e72 ?hlQz ?offQz ?_ | refine' due_append ?FQz ?NQz ?hsQz hi9e72 ?hlQz ?offQz ?_); (case FQz => k_asm); (case NQz => k_asm); (case hsQz => k_extra "mine pick"); (case hlQz => omega); (case offQz => k_extra "mine off")); intro h'e72 hi'e72 F'e72 N'e72; (try dsimp only); (try k_sweep); (try k_fold))
  exact True.intro
--PART A13StWalk
section
local macro_rules | `(tactic| k_all) => `(tactic| assumption)
local macro_rules | `(tactic| k_mem) => `(tactic| k_extra "mine mem")
--#MACROS
theorem ln15 : True := by
  k_with "mine fnd" => first | with_reducible assumption | (refine' Fnd.up ?phQz ?psQz; (case phQz => with_reducible assumption); (case psQz => k_extra "mine subt")) | fail "mine"
  k_with "mine fndall" => first | with_reducible assumption | (refine' FndAll.up ?phQz ?psQz; (case phQz => with_reducible assumption); (case psQz => k_extra "mine subt")) | fail "mine"
  k_with "call ref" => (k_here; (with_reducible show wpAny _ _ (call (Value.ref 273) [Value.ref _, Value.ref _]) _ _ _); (with_reducible rename IntsAre _ _ => hi9e75); k_dflt ((first | with_reducible refine' value_use ?k1Qz ?k2Qz ?k3Qz ?k4Qz ?k5Qz ?a3Qz ?hfQz ?hkQz ?a1Qz ?a2Qz ?a4Qz ?hsQz ?hs2Qz ?hoQz ?hneQz ?offQz ?off2Qz hi9e75 ?hlQz ?_ | refine' value_use ?k1Qz ?k2Qz ?k3Qz ?k4Qz ?k5Qz ?a3Qz ?hfQz ?hkQz ?a1Qz ?a2Qz ?a4Qz ?hsQz ?hs2Qz ?hoQz ?hneQz ?offQz ?off2Qz hi9e75 ?hlQz ?_); (case k1Qz => k_asm); (case k2Qz => k_asm); (case k3Qz => k_asm); (case k4Qz => k_asm); (case k5Qz => k_asm); (case a3Qz => exact rfl); (case hfQz => first | exact rfl | assumption); (case hkQz => first | exact rfl | assumption); (case a1Qz => exact rfl); (case a2Qz => k_extra "mine room"); (case a4Qz => k_extra "mine room"); (case hoQz => assumption); (case hsQz => k_extra "mine pick"); (case hneQz => assumption); (case hs2Qz => k_extra "mine pick"); (case offQz => k_extra "mine off"); (case off2Qz => k_extra "mine off"); (case hlQz => ((try simp only [List.length_append, List.length_cons, List.length_nil]); omega))); intro o'e75 its'e75 n'e75 ext'e75 fr'e75 a'e75 h'e75 tk'e75 ho'e75 hg'e75 hoff'e75 hoff2'e75 hi'e75 he'e75 hv'e75 F'e75 N'e75; (try dsimp only); (try k_sweep); (try k_fold))
  k_with "subscriptTail" => (k_here; (with_reducible show wpAny _ _ (subscriptTail _ (PySem.Expr.Slice none _ none _) (Value.ref _) (Value.ref _)) _ _ _); k_dflt ((first | with_reducible refine' slice_two ?FQz ?NQz ?mQz ?k1Qz ?k2Qz ?_ ?sQz ?tQz | refine' slice_two ?FQz ?NQz ?mQz ?k1Qz ?k2Qz ?_ ?sQz ?tQz); (case FQz => k_asm); (case NQz => k_asm); (case mQz => k_extra "mine mem"); (case k1Qz => omega); (case k2Qz => omega); (case sQz => with_unfolding_all rfl); (case tQz => kmk_pure)); intro r'e76 vs'e76 h'e76 hvs'e76 F'e76 N'e76; (try dsimp only); (try k_sweep); (try k_fold))
  k_with "subscriptTail Name" => (k_here; (with_reducible show wpAny _ _ (subscriptTail _ (PySem.Expr.Slice none _ none _) (Value.ref _) (Value.ref _)) _ _ _); k_dflt ((first | with_reducible refine' slice_two ?FQz ?NQz ?mQz ?k1Qz ?k2Qz ?_ ?sQz ?tQz | refine' slice_two ?FQz ?NQz ?mQz ?k1Qz ?k2Qz ?_ ?sQz ?tQz); (case FQz => k_asm); (case NQz => k_asm); (case mQz => k_extra "mine mem"); (case k1Qz => omega); (case k2Qz => omega); (case sQz => with_unfolding_all rfl); (case tQz => kmk_pure)); intro r'e77 vs'e77 h'e77 hvs'e77 F'e77 N'e77; (try dsimp only); (try k_sweep); (try k_fold))
  k_with "subscriptTail Name Slice ref ref" => (k_here; (with_reducible show wpAny _ _ (subscriptTail _ (PySem.Expr.Slice none _ none _) (Value.ref _) (Value.ref _)) _ _ _); k_dflt ((first | with_reducible refine' slice_two ?FQz ?NQz ?mQz ?k1Qz ?k2Qz ?_ ?sQz ?tQz | refine' slice_two ?FQz ?NQz ?mQz ?k1Qz ?k2Qz ?_ ?sQz ?tQz); (case FQz => k_asm); (case NQz => k_asm); (case mQz => k_extra "mine mem"); (case k1Qz => omega); (case k2Qz => omega); (case sQz => with_unfolding_all rfl); (case tQz => kmk_pure)); intro r'e78 vs'e78 h'e78 hvs'e78 F'e78 N'e78; (try dsimp only); (try k_sweep); (try k_fold))
  k_with "eval ListComp" => (k_here; k_dflt ((first | with_reducible refine' comp_eval ?c1Qz ?c2Qz ?c3Qz ?_ ?c5Qz | refine' comp_eval ?c1Qz ?c2Qz ?c3Qz ?_ ?c5Qz); (case c1Qz => with_unfolding_all rfl); (case c2Qz => rfl); (case c3Qz => decide); (case c5Qz => intro _; with_unfolding_all rfl)))
  k_with "CSrc" => (k_here; (rename StIH _ _ _ _ _ _ => ih9e80); (rename IsRange _ _ _ _ _ _ _ _ => rg9e80); (with_reducible rename IntsAre _ _ => hi9e80); k_dflt ((first | with_reducible refine' st_compK ih9e80 rg9e80 ?b1Qz ?b2Qz ?hhQz ?c1Qz ?c2Qz ?c3Qz ?FQz ?NQz ?hsQz ?hs2Qz ?hoQz ?hneQz ?offQz ?off2Qz hi9e80 ?hlQz ?_ ?_ | refine' st_compK ih9e80 rg9e80 ?b1Qz ?b2Qz ?hhQz ?c1Qz ?c2Qz ?c3Qz ?FQz ?NQz ?hsQz ?hs2Qz ?hoQz ?hneQz ?offQz ?off2Qz hi9e80 ?hlQz ?_ ?_); (case b1Qz => omega); (case b2Qz => omega); (case hhQz => rfl); (case c1Qz => decide); (case c2Qz => rfl); (case c3Qz => rfl); (case FQz => k_asm); (case NQz => k_asm); (case hsQz => k_extra "mine pick"); (case hs2Qz => k_extra "mine pick"); (case hoQz => assumption); (case hneQz => assumption); (case offQz => k_extra "mine off"); (case off2Qz => k_extra "mine off"); (case hlQz => omega); (intro o2'e80 its2'e80 n2'e80 l2'e80 fr2'e80 C2'e80 oC2'e80 m2'e80 h2'e80 tk2'e80 E2'e80 ho2'e80 hi2'e80 hl2'e80 hoffa'e80 hoffb'e80 hsb2'e80 hmC'e80 hNC'e80 F'e80 N'e80; (try dsimp only); (try k_sweep)); rotate_left; (intro D2'e80 ys2'e80 o2'e80 its2'e80 n2'e80 ext2'e80 fr2'e80 h2'e80 tk2'e80 ho2'e80 hg2'e80 hoffa'e80 hoffb'e80 hi2'e80 he2'e80 hfa2'e80 hy1'e80 hy2'e80 hrf2'e80 hne1'e80 hne2'e80 F'e80 N'e80; (try dsimp only); (try k_sweep)); rotate_right))
  k_with "call ref" => (k_here; (with_reducible show wpAny _ _ (call (Value.ref 278) [Value.ref _, Value.ref _, Value.int _ _]) _ _ _); (rename StIH _ _ _ _ _ _ => ih9e81); (with_reducible rename IntsAre _ _ => hi9e81); k_dflt ((first | with_reducible refine' st_use (ih9e81 ?k0Qz) ?k1Qz ?k2Qz ?k3Qz ?k4Qz ?k5Qz ?a3Qz ?hfQz ?hkQz ?a1Qz ?a2Qz ?a4Qz ?hsQz ?hs2Qz ?hoQz ?hneQz ?offQz ?off2Qz hi9e81 ?hlQz ?_ | refine' st_use (ih9e81 ?k0Qz) ?k1Qz ?k2Qz ?k3Qz ?k4Qz ?k5Qz ?a3Qz ?hfQz ?hkQz ?a1Qz ?a2Qz ?a4Qz ?hsQz ?hs2Qz ?hoQz ?hneQz ?offQz ?off2Qz hi9e81 ?hlQz ?_); (case k0Qz => omega); (case k1Qz => k_asm); (case k2Qz => k_asm); (case k3Qz => k_asm); (case k4Qz => k_asm); (case k5Qz => k_asm); (case a3Qz => exact rfl); (case hfQz => first | exact rfl | assumption); (case hkQz => first | exact rfl | assumption); (case a1Qz => exact rfl); (case a2Qz => k_extra "mine room"); (case a4Qz => k_extra "mine room"); (case hoQz => assumption); (case hsQz => k_extra "mine pick"); (case hneQz => assumption); (case hs2Qz => k_extra "mine pick"); (case offQz => k_extra "mine off"); (case off2Qz => k_extra "mine off"); (case hlQz => omega)); intro o'e81 its'e81 n'e81 ext'e81 fr'e81 a'e81 h'e81 tk'e81 ho'e81 hg'e81 hoff'e81 hoff2'e81 hi'e81 he'e81 hv'e81 F'e81 N'e81; (try dsimp only); (try k_sweep); (try k_fold))
  k_with "StEnd" => (k_here; k_dflt ((first | with_reducible refine' StEnd.intro ?FQz ?NQz ?gQz ?hoQz ?hiQz ?heQz ?hvQz | refine' StEnd.intro ?FQz ?NQz ?gQz ?hoQz ?hiQz ?heQz ?hvQz); (case FQz => k_asm); (case NQz => k_asm); (case gQz => with_reducible assumption); (case hoQz => assumption); (case hiQz => with_reducible assumption); (case heQz => with_reducible assumption); (case hvQz => with_reducible assumption)))
  k_with "WayEnd" => (k_here; k_dflt ((first | with_reducible refine' way_end ?FQz ?NQz ?hoQz ?h0Qz ?h8Qz ?h5Qz | refine' way_end ?FQz ?NQz ?hoQz ?h0Qz ?h8Qz ?h5Qz); (case FQz => k_asm); (case NQz => k_asm); (case hoQz => assumption); (case h0Qz => omega); (case h8Qz => omega); (case h5Qz => omega)))
  k_with "eval IfExp" => (k_here; (with_reducible show wpAny _ _ (eval (PySem.Expr.IfExp (PySem.Expr.Compare _ _ _ _) (PySem.Expr.Call _ _ _ _) (PySem.Expr.Call _ _ _ _) _) _) _ _ _); (fail_if_success (k_here; (with_reducible rename WayMark => w9e84))); (rename StIH _ _ _ _ _ _ => ih9e84); k_dflt ((first | with_reducible refine' way_cut ih9e84 ?hoQz ?FQz ?NQz ?hsQz ?_ ?_ | refine' way_cut ih9e84 ?hoQz ?FQz ?NQz ?hsQz ?_ ?_); (case FQz => k_asm); (case NQz => k_asm); (case hoQz => assumption); (case hsQz => k_extra "mine pick"); (have w9e84 := WayMark.mk); rotate_left; (intro d'e84 td'e84 o'e84 h'e84 tk'e84 hw0'e84 hw8'e84 hw5'e84 ho'e84 F'e84 N'e84; (try dsimp only); (try k_sweep)); rotate_right))
  k_with "call type:tuple" => (k_here; (with_reducible show wpAny _ _ (call (Value.type _) [Value.ref _]) _ _ _); (rename FndAll _ _ _ _ => fa9e85); k_dflt ((first | with_reducible refine' tuple_ys ?FQz ?NQz ?mQz fa9e85 ?zQz ?_ | refine' tuple_ys ?FQz ?NQz ?mQz fa9e85 ?zQz ?_); (case FQz => k_asm); (case NQz => k_asm); (case mQz => k_extra "mine mem"); (case zQz => omega)); intro T'e85 h'e85 F'e85 N'e85; (try dsimp only); (try k_sweep); (try k_fold))
  k_with "mine enterC" => (refine wpAny_call ?_; k_dflt ((first | with_reducible refine' code_defC ?k1Qz ?k2Qz ?k3Qz ?k4Qz ?k5Qz ?kAQz ?kFQz ?kKQz ?k6Qz ?k7Qz ?k8Qz ?k9Qz ?kBQz ?kDQz ?_ ?c2Qz ?c3Qz ?c4Qz | refine' code_defC ?k1Qz ?k2Qz ?k3Qz ?k4Qz ?k5Qz ?kAQz ?kFQz ?kKQz ?k6Qz ?k7Qz ?k8Qz ?k9Qz ?kBQz ?kDQz ?_ ?c2Qz ?c3Qz ?c4Qz); (case kAQz => exact rfl); (case kFQz => assumption); (case kKQz => assumption); (case k1Qz => k_asm); (case k2Qz => k_asm); (case k3Qz => k_asm); (case k4Qz => k_asm); (case k5Qz => k_asm); (case k6Qz => k_is); (case k7Qz => k_is); (case k8Qz => k_extra "mine room"); (case k9Qz => exact BindsTo.of_eq rfl); (case kBQz => exact rfl); (case kDQz => decide +kernel); (case c2Qz => exact rfl); (case c3Qz => exact rfl); (case c4Qz => exact rfl); k_whole; intro g'e86 L'e86 h'e86 tk'e86 cells'e86 FG'e86 F'e86 N'e86 Y'e86 B'e86 X'e86 T'e86 l1e86; (try (have l1be86 := l1e86; replace l1e86 := allLt_of l1e86; dsimp only [AllLt] at l1e86)); k_cells Y'e86; (try simp only [List.cons_append, List.nil_append] at N'e86); (try dsimp only); (try k_fold)))
  exact True.intro
--#END
set_option maxRecDepth 100000 in
set_option maxHeartbeats 8000000 in
theorem st_walk (w : World) (k : Int) (cap sz cap' sz' dz uz : Nat) (hk0 : 0 ≤ k) (hdz : dz ≤ 540) (huz : uz ≤ 7000) (hc2 : 2 ≤ cap) (hc : 0 < k → cap' + cap' ≤ cap) (hs1 : 120 ≤ sz) (hs2 : 0 < k → 2 * sz' + 40 ≤ sz)
    (IH : StIH w k (dz + 5) (uz + 50) cap' sz') : Con w 278 dz uz (stPre k cap) (stPost cap sz) := by
  unfold Con
  k_fill
  rintro ⟨src, o, due, its, n, l, fr, kt⟩ mean mg mb env outer gd A₀ base h₀ L m news s vs Q E B F X N T hf hk ⟨rfl, rfl, ho, hne, hoff, hoff2, hi, hl⟩ hret
  try dsimp only at *
  k_extra "mine enterC"
  k_steps
  all_goals (refine' st_end hret ?F ?N ?ho ?hs ?hi ?hd ?sb ?he ?hv ?hn; (case F => k_asm); (case N => k_asm); (case ho => assumption); (case hs => k_extra "mine pick"); (case hi => first | exact ints_app (by with_reducible assumption) | with_reducible assumption); (case hd => k_extra "mine mem"); (case sb => k_extra "mine sub"); (case he => ((try simp only [List.length_append, List.length_cons, List.length_nil]); omega)); (case hv => first | (refine' st_set1 ?v0 ?v1 ?v2 ?v3 ?v4 ?v5 ?v6 ?v7; (case v0 => k_extra "mine mem"); (case v1 => k_extra "mine mem"); (case v2 => assumption); (case v3 => k_extra "mine mem"); (case v4 => k_extra "mine rel"); (case v5 => assumption); (case v6 => k_extra "mine fnd"); (case v7 => with_reducible assumption)) | (refine' st_set0 ?v0 ?v1 ?v2 ?v3 ?v4 ?v5 ?v6 ?v7; (case v0 => k_extra "mine mem"); (case v1 => k_extra "mine mem"); (case v2 => assumption); (case v3 => k_extra "mine mem"); (case v4 => k_extra "mine rel"); (case v5 => assumption); (case v6 => k_extra "mine fnd"); (case v7 => exact Or.inr rfl)) | (refine' st_set0 ?v0 ?v1 ?v2 ?v3 ?v4 ?v5 ?v6 ?v7; (case v0 => k_extra "mine mem"); (case v1 => k_extra "mine mem"); (case v2 => assumption); (case v3 => k_extra "mine mem"); (case v4 => k_extra "mine rel"); (case v5 => assumption); (case v6 => k_extra "mine fnd"); (case v7 => exact Or.inl (by with_reducible assumption))) | (refine' st_update1 ?v0 ?v1 ?v2 ?v3 ?v4; (case v0 => k_extra "mine mem"); (case v1 => k_extra "mine rel"); (case v2 => assumption); (case v3 => k_extra "mine fnd"); (case v4 => with_reducible assumption)) | (refine' st_update0 ?v0 ?v1 ?v2 ?v3 ?v4; (case v0 => k_extra "mine mem"); (case v1 => k_extra "mine rel"); (case v2 => assumption); (case v3 => k_extra "mine fnd"); (case v4 => exact Or.inr rfl)) | (refine' st_update0 ?v0 ?v1 ?v2 ?v3 ?v4; (case v0 => k_extra "mine mem"); (case v1 => k_extra "mine rel"); (case v2 => assumption); (case v3 => k_extra "mine fnd"); (case v4 => exact Or.inl (by with_reducible assumption))) | (refine' st_do ?v0 ?v1; (case v0 => k_extra "mine mem"); (case v1 => k_extra "mine fnd")) | (refine' st_let ?v0 ?v1 ?v2 ?v3; (case v0 => k_extra "mine mem"); (case v1 => k_extra "mine mem"); (case v2 => k_extra "mine mem"); (case v3 => k_extra "mine fnd")) | (refine' st_block ?v0 ?v1 ?v2 ?v3 ?v4; (case v0 => k_extra "mine mem"); (case v1 => k_extra "mine mem"); (case v2 => assumption); (case v3 => assumption); (case v4 => k_extra "mine fndall")) | (refine' st_if' ?v0 ?v1 ?v2 ?v3 ?v4 ?v5 ?v6 ?v7 ?v8 ?v9; (case v0 => k_extra "mine mem"); (case v1 => k_extra "mine mem"); (case v2 => k_extra "mine mem"); (case v3 => k_extra "mine rel"); (case v4 => k_extra "mine mem"); (case v5 => k_extra "mine mem"); (case v6 => k_extra "mine mem"); (case v7 => assumption); (case v8 => assumption); (case v9 => k_extra "mine fndall")) | (refine' st_for' ?v0 ?v1 ?v2 ?v3 ?v4 ?v5 ?v6 ?v7 ?v8 ?v9 ?v10 ?v11 ?v12 ?v13 ?v14; (case v0 => k_extra "mine mem"); (case v1 => k_extra "mine mem"); (case v2 => k_extra "mine mem"); (case v3 => k_extra "mine rel"); (case v4 => k_extra "mine mem"); (case v5 => k_extra "mine mem"); (case v6 => k_extra "mine mem"); (case v7 => assumption); (case v8 => assumption); (case v9 => k_extra "mine fndall"); (case v10 => k_extra "mine mem"); (case v11 => k_extra "mine mem"); (case v12 => k_extra "mine mem"); (case v13 => k_extra "mine rel"); (case v14 => k_extra "mine mem")) | fail "stmt"); (case hn => omega))

end
theorem ln16 : True := by
  k_with_none
  k_with "eval Name" => (k_here; (with_reducible show wpAny _ _ (eval (PySem.Expr.Name _ _) (envOf _ _ _ _ _)) _ _ _); name_kind "globalImplicit"; k_dflt ((with_reducible refine' name_K ?k0Qz ?k1Qz ?k2Qz ?k3Qz ?_ ?aQz ?bQz ?cQz); (case k0Qz => with_reducible assumption); (case k1Qz => with_reducible assumption); (case k2Qz => k_asm); (case k3Qz => k_is); (case aQz => exact rfl); (case bQz => kernel_rfl!); (case cQz => decide +kernel); k_whole))
  k_with "eval Name" => (k_here; (with_reducible show wpAny _ _ (eval (PySem.Expr.Name _ _) (envOf _ _ _ _ _)) _ _ _); name_kind "globalImplicit"; name_is_builtin; k_dflt ((with_reducible refine' name_B ?k0Qz ?k1Qz ?k2Qz ?k3Qz ?k4Qz ?k5Qz ?_ ?aQz ?bQz ?cQz); (case k0Qz => with_reducible assumption); (case k1Qz => with_reducible assumption); (case k2Qz => k_asm); (case k3Qz => k_is); (case k4Qz => boot_fast); (case k5Qz => decide +kernel); (case aQz => exact rfl); (case bQz => kernel_rfl!); (case cQz => decide +kernel); k_whole))
  k_with "eval Name" => (k_here; (with_reducible show wpAny _ _ (eval (PySem.Expr.Name _ _) (envOf _ _ _ _ _)) _ _ _); name_kind "local"; k_dflt ((with_reducible refine' ld ?k1Qz ?k2Qz ?_ ?aQz ?bQz ?cQz); (case k1Qz => with_reducible assumption); (case aQz => exact rfl); (case bQz => kernel_rfl!); (case cQz => decide +kernel); (case k2Qz => exact rfl); k_whole))
  k_with "eval Name" => (k_here; (with_reducible show wpAny _ _ (eval (PySem.Expr.Name _ _) (envOfC _ _ _ _ _)) _ _ _); k_dflt first | (name_kind "local"; (with_reducible refine' nameC_L ?FQz ?vQz ?_ ?aQz ?bQz ?cQz); (case FQz => with_reducible assumption); (case aQz => exact rfl); (case bQz => kernel_rfl!); (case cQz => decide +kernel); (case vQz => first | exact rfl | assumption); k_whole) | (name_kind "cell"; (with_reducible refine' nameC_C ?NQz ?kQz ?mQz ?dQz ?_ ?aQz ?bQz ?cQz); (case aQz => exact rfl); (case bQz => kernel_rfl!); (case cQz => decide +kernel); (case NQz => with_reducible assumption); (case kQz => exact rfl); (case mQz => k_mem); (case dQz => k_asm); k_whole) | (name_kind "globalImplicit"; name_is_builtin; (with_reducible refine' nameC_B ?FQz ?XQz ?TQz ?eQz ?vQz ?nQz ?_ ?aQz ?bQz ?cQz); (case FQz => with_reducible assumption); (case XQz => with_reducible assumption); (case TQz => k_asm); (case aQz => exact rfl); (case bQz => kernel_rfl!); (case cQz => decide +kernel); (case eQz => k_is); (case vQz => boot_fast); (case nQz => decide +kernel); k_whole) | (name_kind "globalImplicit"; (with_reducible refine' nameC_K ?FQz ?XQz ?TQz ?eQz ?_ ?aQz ?bQz ?cQz); (case FQz => with_reducible assumption); (case XQz => with_reducible assumption); (case TQz => k_asm); (case aQz => exact rfl); (case bQz => kernel_rfl!); (case cQz => decide +kernel); (case eQz => k_is); k_whole))
  k_with "eval Name" => (k_here; (with_reducible show wpAny _ _ (eval (PySem.Expr.Name _ _) (compEnvC _ _ _ _)) _ _ _); k_dflt first | (name_kind "local"; (with_reducible refine' LCgL.ld_own ?NQz ?mQz ?CQz ?xQz ?_ ?aQz ?bQz ?cQz); (case NQz => with_reducible assumption); (case mQz => k_mem); (case CQz => with_reducible assumption); (case xQz => assumption); (case aQz => exact rfl); (case bQz => kernel_rfl!); (case cQz => decide +kernel); k_whole) | (name_kind "globalImplicit"; name_is_builtin; (with_reducible refine' LCgL.ld_built ?FQz ?XQz ?TQz ?eQz ?vQz ?nQz ?_ ?gQz ?hQz ?aQz ?bQz ?cQz); (case FQz => with_reducible assumption); (case XQz => with_reducible assumption); (case TQz => with_reducible assumption); (case gQz => exact rfl); (case hQz => exact rfl); (case aQz => exact rfl); (case bQz => kernel_rfl!); (case cQz => decide +kernel); (case eQz => k_is); (case vQz => boot_fast); (case nQz => decide +kernel); k_whole) | (name_kind "globalImplicit"; (with_reducible refine' LCgL.ld_global ?FQz ?XQz ?TQz ?eQz ?_ ?gQz ?aQz ?bQz ?cQz); (case FQz => with_reducible assumption); (case XQz => with_reducible assumption); (case TQz => with_reducible assumption); (case gQz => exact rfl); (case aQz => exact rfl); (case bQz => kernel_rfl!); (case cQz => decide +kernel); (case eQz => k_is); k_whole) | (name_kind "free"; (with_reducible refine' lcf_free ?NQz ?kQz ?mQz ?dQz ?_ ?aQz ?bQz ?cQz ?eQz); (case aQz => exact rfl); (case bQz => kernel_rfl!); (case cQz => decide +kernel); (case eQz => decide +kernel); (case NQz => with_reducible assumption); (case kQz => exact rfl); (case mQz => k_mem); (case dQz => k_asm); k_whole))
  k_with "newTuple" => (k_here; k_dflt ((with_reducible refine' kup_newTuple ?FQz ?NQz ?_ ?zQz); (case FQz => with_reducible assumption); (case NQz => with_reducible assumption); (case zQz => first | exact Nat.le_of_ble_eq_true rfl | kmk_size)); intro D'e5 h'e5 F'e5 N'e5 l1e5; (try k_sweep))
  k_with "newList" => (k_here; k_dflt ((with_reducible refine' newList_K ?FQz ?NQz ?_ ?zQz); (case FQz => with_reducible assumption); (case NQz => with_reducible assumption); (case zQz => first | exact Nat.le_of_ble_eq_true rfl | size_fits)); intro D'e6 h'e6 F'e6 N'e6 l1e6; (try k_sweep))
  k_with "And" => ((with_reducible show Frag.In _ _ ∧ _); refine' And.intro ?kQz ?_; (case kQz => k_dflt (first | with_reducible assumption | (refine' Frag.In.keeps ?xQz (Fr.keep ?fQz); (case fQz => with_reducible assumption); (case xQz => with_reducible assumption)) | k_in)); (try dsimp only [List.nil_append, List.cons_append]))
  k_with "execs cons" => (k_here; (try k_gentoks); (with_reducible refine' wpAny_execs_cons ?_); (try dsimp only); (try k_fold))
  k_with "ite" => (k_closed; first | (with_reducible refine' ite_tt ?_) | (with_reducible refine' ite_ff ?_) | ((with_reducible refine' ite_neg ?hQz ?_); (case hQz => decide +kernel)) | ((with_reducible refine' ite_pos ?hQz ?_); (case hQz => decide +kernel)))
  k_with "spliced" => k_dflt ((first | (with_reducible refine' args_cons (env := envOf _ _ _ _ _) ?_ ?heQz) | (with_reducible refine' args_cons (env := envOfC _ _ _ _ _) ?_ ?heQz)); (case heQz => exact rfl))
  k_with "eval Call" => k_dflt ((first | (with_reducible refine' Call_ (env := envOf _ _ _ _ _) ?_ ?heQz) | (with_reducible refine' Call_ (env := envOfC _ _ _ _ _) ?_ ?heQz)); (case heQz => exact rfl))
  k_with "exec Assign" => k_dflt ((first | (with_reducible refine' wpAny_Assign_Name (env := envOf _ _ _ _ _) ?_ ?heQz) | (with_reducible refine' wpAny_Assign_Name (env := envOfC _ _ _ _ _) ?_ ?heQz)); (case heQz => exact rfl); (try k_fold))
  k_with "callWith ref" => (k_here; k_dflt first | ((with_reducible refine' callWith_K ?k1Qz ?k2Qz ?_ ?heQz ?hpQz); (case k1Qz => with_reducible assumption); (case k2Qz => k_is); (case heQz => exact rfl); (case hpQz => exact rfl); k_whole) | ((with_reducible refine' callWith_K0 ?k1Qz ?k2Qz ?_); (case k1Qz => (first | with_reducible assumption | (refine' Frag.In.keeps ?xQz (Fr.keep ?fQz); (case fQz => with_reducible assumption); (case xQz => with_reducible assumption)) | k_in)); (case k2Qz => k_is); k_whole))
  k_with "storeName" => (k_here; k_dflt first | ((with_reducible refine' stN ?FQz ?NQz ?_ ?aQz ?bQz); (case FQz => with_reducible assumption); (case NQz => with_reducible assumption); (case aQz => exact rfl); (case bQz => kernel_rfl!); k_whole; intro h'e14 F'e14 N'e14; (try k_sweep)) | (name_kind "local"; (with_reducible refine' storeC_L ?FQz ?NQz ?_ ?aQz ?bQz); (case FQz => with_reducible assumption); (case NQz => with_reducible assumption); (case aQz => exact rfl); (case bQz => kernel_rfl!); k_whole; intro h'e14 F'e14 N'e14; (try k_sweep)))
  k_with "mine room" => first | exact Nat.le_of_ble_eq_true rfl | ((try simp only [recursionLimit]); (try dsimp only [Around.deeper, Around.in1, Around.mark, rnd]); first | exact room_le (by with_reducible assumption) rfl | omega) | fail "mine"
  k_with "mine enter" => (refine wpAny_call ?_; k_dflt ((with_reducible refine' code_def ?k1Qz ?k2Qz ?k3Qz ?k4Qz ?k5Qz ?kAQz ?kFQz ?kKQz ?k6Qz ?k7Qz ?k8Qz ?k9Qz ?kBQz ?_ ?c2Qz ?c3Qz ?c4Qz ?c5Qz); (case kAQz => exact rfl); (case kFQz => assumption); (case kKQz => assumption); (case k1Qz => k_asm); (case k2Qz => k_asm); (case k3Qz => k_asm); (case k4Qz => k_asm); (case k5Qz => k_asm); (case k6Qz => k_is); (case k7Qz => k_is); (case k8Qz => ktr_room); (case k9Qz => exact BindsTo.of_eq rfl); (case c5Qz => decide); (case kBQz => exact locs rfl); (case c2Qz => exact rfl); (case c3Qz => exact rfl); (case c4Qz => exact rfl); k_whole; intro g'e16 L'e16 h'e16 FG'e16 F'e16 N'e16 B'e16 X'e16 T'e16; (try dsimp only); (try k_fold)))
  k_with "mine pick" => first | exact Pick.head | (refine' Pick.tail ?pkQz; (case pkQz => k_extra "mine pick")) | fail "mine"
  k_with "mine mem" => first | with_reducible assumption | exact mem_hd | (refine' mem_tl ?pmQz; (case pmQz => k_extra "mine mem")) | (refine' Sub.mem ?pgQz ?pmQz; (case pgQz => with_reducible assumption); (case pmQz => k_extra "mine mem")) | (refine' Grow.mem ?pgQz ?pmQz; (case pgQz => with_reducible assumption); (case pmQz => k_extra "mine mem")) | fail "mine"
  k_with "mine at" => first | (with_reducible exact at_hd) | ((with_reducible refine' at_tl ?pmQz); (case pmQz => k_extra "mine at")) | fail "mine"
  k_with "mine pj" => first | with_reducible assumption | exact pj_l (by with_reducible assumption) | exact pj_l (pj_r (by with_reducible assumption)) | exact pj_r (by with_reducible assumption) | exact pj_l (pj_2 (by with_reducible assumption)) | exact pj_2 (by with_reducible assumption) | exact pj_l (pj_2 (pj_r (by with_reducible assumption))) | exact pj_2 (pj_r (by with_reducible assumption)) | exact pj_l (pj_4 (by with_reducible assumption)) | exact pj_4 (by with_reducible assumption) | exact pj_l (pj_4 (pj_r (by with_reducible assumption))) | exact pj_4 (pj_r (by with_reducible assumption)) | exact pj_l (pj_4 (pj_2 (by with_reducible assumption))) | exact pj_4 (pj_2 (by with_reducible assumption)) | exact pj_l (pj_4 (pj_2 (pj_r (by with_reducible assumption)))) | exact pj_4 (pj_2 (pj_r (by with_reducible assumption))) | exact pj_l (pj_8 (by with_reducible assumption)) | exact pj_8 (by with_reducible assumption) | exact pj_l (pj_8 (pj_r (by with_reducible assumption))) | exact pj_8 (pj_r (by with_reducible assumption)) | exact pj_l (pj_8 (pj_2 (by with_reducible assumption))) | exact pj_8 (pj_2 (by with_reducible assumption)) | exact pj_l (pj_8 (pj_2 (pj_r (by with_reducible assumption)))) | exact pj_8 (pj_2 (pj_r (by with_reducible assumption))) | exact pj_l (pj_8 (pj_4 (by with_reducible assumption))) | exact pj_8 (pj_4 (by with_reducible assumption)) | exact pj_l (pj_8 (pj_4 (pj_r (by with_reducible assumption)))) | exact pj_8 (pj_4 (pj_r (by with_reducible assumption))) | exact pj_l (pj_8 (pj_4 (pj_2 (by with_reducible assumption)))) | exact pj_8 (pj_4 (pj_2 (by with_reducible assumption))) | exact pj_l (pj_8 (pj_4 (pj_2 (pj_r (by with_reducible assumption))))) | exact pj_8 (pj_4 (pj_2 (pj_r (by with_reducible assumption)))) | exact pj_l (pj_16 (by with_reducible assumption)) | exact pj_16 (by with_reducible assumption) | exact pj_l (pj_16 (pj_r (by with_reducible assumption))) | exact pj_16 (pj_r (by with_reducible assumption)) | exact pj_l (pj_16 (pj_2 (by with_reducible assumption))) | exact pj_16 (pj_2 (by with_reducible assumption)) | exact pj_l (pj_16 (pj_2 (pj_r (by with_reducible assumption)))) | exact pj_16 (pj_2 (pj_r (by with_reducible assumption))) | exact pj_l (pj_16 (pj_4 (by with_reducible assumption))) | exact pj_16 (pj_4 (by with_reducible assumption)) | exact pj_l (pj_16 (pj_4 (pj_r (by with_reducible assumption)))) | exact pj_16 (pj_4 (pj_r (by with_reducible assumption))) | exact pj_l (pj_16 (pj_4 (pj_2 (by with_reducible assumption)))) | exact pj_16 (pj_4 (pj_2 (by with_reducible assumption))) | exact pj_l (pj_16 (pj_4 (pj_2 (pj_r (by with_reducible assumption))))) | exact pj_16 (pj_4 (pj_2 (pj_r (by with_reducible assumption)))) | exact pj_l (pj_16 (pj_8 (by with_reducible assumption))) | exact pj_16 (pj_8 (by with_reducible assumption)) | exact pj_l (pj_16 (pj_8 (pj_r (by with_reducible assumption)))) | exact pj_16 (pj_8 (pj_r (by with_reducible assumption))) | exact pj_l (pj_16 (pj_8 (pj_2 (by with_reducible assumption)))) | exact pj_16 (pj_8 (pj_2 (by with_reducible assumption))) | exact pj_l (pj_16 (pj_8 (pj_2 (pj_r (by with_reducible assumption))))) | exact pj_16 (pj_8 (pj_2 (pj_r (by with_reducible assumption)))) | exact pj_l (pj_16 (pj_8 (pj_4 (by with_reducible assumption)))) | exact pj_16 (pj_8 (pj_4 (by with_reducible assumption))) | exact pj_l (pj_16 (pj_8 (pj_4 (pj_r (by with_reducible assumption))))) | exact pj_16 (pj_8 (pj_4 (pj_r (by with_reducible assumption)))) | exact pj_l (pj_16 (pj_8 (pj_4 (pj_2 (by with_reducible assumption))))) | exact pj_16 (pj_8 (pj_4 (pj_2 (by with_reducible assumption)))) | exact pj_l (pj_16 (pj_8 (pj_4 (pj_2 (pj_r (by with_reducible assumption)))))) | exact pj_16 (pj_8 (pj_4 (pj_2 (pj_r (by with_reducible assumption))))) | fail "mine"
  k_with "mine new" => first | ((with_reducible refine' ne_new ?hQz ?mQz); (case hQz => with_reducible assumption); (case mQz => k_extra "mine at")) | ((with_reducible refine' ne_new' ?hQz ?mQz); (case hQz => with_reducible assumption); (case mQz => k_extra "mine at")) | ((with_reducible refine' Nat.ne_of_lt ?hQz); (case hQz => k_extra "mine pj")) | ((with_reducible refine' Nat.ne_of_gt ?hQz); (case hQz => k_extra "mine pj")) | fail "mine"
  k_with "mine ne" => first | assumption | (refine Ne.symm ?_; assumption) | k_extra "mine new" | (refine neN ?_; (try dsimp only); first | k_extra "mine new" | omega) | fail "mine"
  k_with "mine off" => first | with_reducible assumption | exact Off.nil | (refine Off.tup ?_; k_extra "mine off") | (refine Off.ne ?_ ?_; (k_extra "mine ne"); (k_extra "mine off")) | fail "mine"
  k_with "mine sub" => first | with_reducible assumption | exact Sub.refl | (refine Sub.tl ?_; k_extra "mine sub") | (refine' Sub.gr ?pgQz ?pkQz; (case pgQz => with_reducible assumption); (case pkQz => k_extra "mine sub")) | fail "mine"
  k_with "call ref" => (k_here; (with_reducible show wpAny _ _ (call (Value.ref 220) [Value.ref _, Value.int _ _]) _ _ _); k_dflt ((with_reducible refine' take_use ?k1Qz ?k2Qz ?k3Qz ?k4Qz ?k5Qz ?a3Qz ?hfQz ?hkQz ?a1Qz ?a2Qz ?a4Qz ?hsQz ?hoQz ?htQz ?offQz ?_); (case k1Qz => k_asm); (case k2Qz => k_asm); (case k3Qz => k_asm); (case k4Qz => k_asm); (case k5Qz => k_asm); (case a3Qz => exact rfl); (case hfQz => exact rfl); (case hkQz => exact rfl); (case a1Qz => exact rfl); (case a2Qz => k_extra "mine room"); (case a4Qz => k_extra "mine room"); (case hoQz => assumption); (case hsQz => k_extra "mine pick"); (case htQz => exact ⟨by decide, by decide⟩); (case offQz => k_extra "mine off")); intro d'e34 td'e34 o'e34 h'e34 tk'e34 hd0e34 hd1e34 ho'e34 F'e34 N'e34; (try dsimp only); (try k_sweep); (try k_fold))
  exact True.intro
--PART A14Under
section
local macro_rules | `(tactic| k_all) => `(tactic| assumption)
theorem tupAt_item {prog : Program} {w : World} {A : Around} {E : Value → Shared → Prop} {s : Shared} {Q : Value → Shared → Prop} {P : Params} {h₀ : Heap} {L : Addr} {m : Str → Option Value} {l news : Led} {value slice : Expr} {a : Addr} {vs : List Value} {k : Int} {u : Tok} {j : Nat} {v : Value}
    (ht : TupAt l a vs) (X : (hd.heap_39 P).In h₀) (F : Fr h₀ L s.heap m) (N : News h₀ L s.heap news) (st : SubT l news) (hlo : -(2 ^ 63) ≤ k) (hhi : k < 2 ^ 63) (hj : seqIndex? k vs.length = some j) (hx : vs[j]? = some v) (h : Q v s)
    (hs : subscripted slice false (.ref a) (.int k u) = operate [.ref a, .int k u] (getItem (.ref a) (.int k u))) : wpAny (model prog w) A (subscriptTail value slice (.ref a) (.int k u)) Q E s :=
  item_tupleT ⟨_, ht.get (X.keeps F.keep) N st, rfl, _, rfl⟩ hlo hhi hj hx h hs
theorem tupAt_head {prog : Program} {w : World} {A : Around} {E : Value → Shared → Prop} {s : Shared} {Q : Value → Shared → Prop} {P : Params} {h₀ : Heap} {L : Addr} {m : Str → Option Value} {l news : Led} {value slice : Expr} {a : Addr} {vs : List Value} {u : Tok} {v : Value}
    (ht : TupAt l a (v :: vs)) (X : (hd.heap_39 P).In h₀) (F : Fr h₀ L s.heap m) (N : News h₀ L s.heap news) (st : SubT l news) (h : Q v s)
    (hs : subscripted slice false (.ref a) (.int 0 u) = operate [.ref a, .int 0 u] (getItem (.ref a) (.int 0 u))) : wpAny (model prog w) A (subscriptTail value slice (.ref a) (.int 0 u)) Q E s :=
  tupAt_item ht X F N st (by decide) (by decide) (j := 0) (by simp [seqIndex?]) rfl h hs
theorem str_ne {prog : Program} {w : World} {A : Around} {E : Value → Shared → Prop} {s : Shared} {Q : Value → Shared → Prop} {x y : Str} {t u : Tok} (hn : (x == y) = false) (h : Q (.bool false) s) : wpAny (model prog w) A (compareOp .Eq (.str x t) (.str y u)) Q E s :=
  PyProof.Rows.eq_str (by rw [hn]; exact h)
theorem str_ne' {prog : Program} {w : World} {A : Around} {E : Value → Shared → Prop} {s : Shared} {Q : Value → Shared → Prop} {x y : Str} {t u : Tok} (hn : (x == y) = false) (h : Q (.bool true) s) : wpAny (model prog w) A (compareOp .NotEq (.str x t) (.str y u)) Q E s :=
  PyProof.Rows.ne_str (by
    have e : (x != y) = true := by unfold bne; rw [hn]; rfl
    rw [e]; exact h)
structure WorldAt (w : World) (l : Led) (W : Addr) : Prop where
  mk' ::
  ex : ∃ d es n nd od kvs r rd res rn u t1 t2, (W, instObj 202 d) ∈ l ∧ (d, dictOf es n) ∈ l ∧ (getL (Str.ofString "named") es = some (some (.ref nd)) ∧ getL (Str.ofString "base_of") es = some none) ∧ (nd, od) ∈ l ∧ od.IsDictOf (PySem.strKind PySem.Challenge.rw_on0017_01.row.prog w) kvs ∧ valueAt kvs (Str.ofString "main.N") = some (.ref r) ∧ (nd == sysModules) = false ∧
    (r, instObj 159 rd) ∈ l ∧ (rd, dictOf res rn) ∈ l ∧ getL (Str.ofString "underlying") res = some (some (.ref u)) ∧ (u, tupO [.str (Str.ofString "array") t1, .int 2 t2, .ref 228]) ∈ l
theorem WorldAt.mono {w : World} {l l' : Led} {W : Addr} (s : Sub l l') (h : WorldAt w l W) : WorldAt w l' W := by
  obtain ⟨d, es, n, nd, od, kvs, r, rd, res, rn, u, t1, t2, h1, h2, h3, h4, h5, h6, h7, h8, h9, h10, h11⟩ := h.ex
  exact ⟨d, es, n, nd, od, kvs, r, rd, res, rn, u, t1, t2, s _ h1, s _ h2, h3, s _ h4, h5, h6, h7, s _ h8, s _ h9, h10, s _ h11⟩
noncomputable def unPre (w : World) (g : Led × Addr × Value × Ty) (news : Led) (vs : List Value) : Prop := news = g.1 ∧ vs = [.ref g.2.1, g.2.2.1] ∧ WorldAt w g.1 g.2.1 ∧ TyIn g.1 g.2.2.1 g.2.2.2
noncomputable def ArrHead (ty : Ty) (x : Str) : Prop := if ty.isArr then x = Str.ofString "array" else (x == Str.ofString "array") = false
noncomputable def unPost (g : Led × Addr × Value × Ty) (news : Led) (v : Value) : Prop := news = g.1 ∧ ∃ a x t vs, v = .ref a ∧ TupAt g.1 a (.str x t :: vs) ∧ ArrHead g.2.2.2 x
noncomputable def isNamedTy : Ty → Bool
  | .named => true
  | _ => false
theorem ty_head {l : Led} {v : Value} {ty : Ty} (h : TyIn l v ty) (hn : isNamedTy ty = false) : ∃ a x t vs, v = .ref a ∧ TupAt l a (.str x t :: vs) ∧ ArrHead ty x ∧ (x == Str.ofString "named") = false := by
  cases h
  case i228 => exact ⟨_, _, _, _, rfl, .inr .k228, (show (_ == _) = false by decide +kernel), by decide +kernel⟩
  case i229 => exact ⟨_, _, _, _, rfl, .inr .k229, (show (_ == _) = false by decide +kernel), by decide +kernel⟩
  case i231 => exact ⟨_, _, _, _, rfl, .inr .k231, (show (_ == _) = false by decide +kernel), by decide +kernel⟩
  case i233 => exact ⟨_, _, _, _, rfl, .inr .k233, (show (_ == _) = false by decide +kernel), by decide +kernel⟩
  case a230 => exact ⟨_, _, _, _, rfl, .inr .k230, by rfl, by decide +kernel⟩
  case a234 => exact ⟨_, _, _, _, rfl, .inr .k234, by rfl, by decide +kernel⟩
  case pair => exact ⟨_, _, _, _, rfl, .inr .k237, (show (_ == _) = false by decide +kernel), by decide +kernel⟩
  case named => cases hn
  case ptr m => exact ⟨_, _, _, _, rfl, .inl m, (show (_ == _) = false by decide +kernel), by decide +kernel⟩
  case slice m => exact ⟨_, _, _, _, rfl, .inl m, (show (_ == _) = false by decide +kernel), by decide +kernel⟩
  case arr2 m => exact ⟨_, _, _, _, rfl, .inl m, by rfl, by decide +kernel⟩
--#MACROS
theorem ln17 : True := by
  k_with "mine subt" => first | exact SubT.refl | with_reducible assumption | (refine' SubT.tl ?pkQz; (case pkQz => k_extra "mine subt")) | (refine' SubT.gr ?pgQz ?pkQz; (case pgQz => with_reducible assumption); (case pkQz => k_extra "mine subt")) | (refine' SubT.sb ?pgQz ?pkQz; (case pgQz => with_reducible assumption); (case pkQz => k_extra "mine subt")) | fail "mine"
  exact True.intro
local macro_rules | `(tactic| k_mem) => `(tactic| k_extra "mine mem")
theorem ln18 : True := by
  k_with "subscriptTail" => (k_here; (with_reducible show wpAny _ _ (subscriptTail _ _ (Value.ref _) (Value.int _ _)) _ _ _); k_dflt ((first | with_reducible refine' tupAt_item ?htQz ?XQz ?FQz ?NQz ?stQz ?k3Qz ?k4Qz ?k5Qz ?k6Qz ?_ ?k7Qz | refine' tupAt_item ?htQz ?XQz ?FQz ?NQz ?stQz ?k3Qz ?k4Qz ?k5Qz ?k6Qz ?_ ?k7Qz); (case htQz => with_reducible assumption); (case XQz => k_asm); (case FQz => k_asm); (case NQz => k_asm); (case stQz => k_extra "mine subt"); (case k3Qz => decide); (case k4Qz => decide); (case k5Qz => exact rfl); (case k6Qz => exact rfl); (case k7Qz => with_unfolding_all rfl)); (try dsimp only); (try k_fold))
  k_with "subscriptTail Name Constant ref int" => (k_here; (with_reducible show wpAny _ _ (subscriptTail _ _ (Value.ref _) (Value.int _ _)) _ _ _); k_dflt ((first | with_reducible refine' tupAt_item ?htQz ?XQz ?FQz ?NQz ?stQz ?k3Qz ?k4Qz ?k5Qz ?k6Qz ?_ ?k7Qz | refine' tupAt_item ?htQz ?XQz ?FQz ?NQz ?stQz ?k3Qz ?k4Qz ?k5Qz ?k6Qz ?_ ?k7Qz); (case htQz => with_reducible assumption); (case XQz => k_asm); (case FQz => k_asm); (case NQz => k_asm); (case stQz => k_extra "mine subt"); (case k3Qz => decide); (case k4Qz => decide); (case k5Qz => exact rfl); (case k6Qz => exact rfl); (case k7Qz => with_unfolding_all rfl)); (try dsimp only); (try k_fold))
  k_with "subscriptTail" => (k_here; (with_reducible show wpAny _ _ (subscriptTail _ _ (Value.ref _) (Value.int 0 _)) _ _ _); k_dflt ((first | with_reducible refine' tupAt_head ?htQz ?XQz ?FQz ?NQz ?stQz ?_ ?k7Qz | refine' tupAt_head ?htQz ?XQz ?FQz ?NQz ?stQz ?_ ?k7Qz); (case htQz => with_reducible assumption); (case XQz => k_asm); (case FQz => k_asm); (case NQz => k_asm); (case stQz => k_extra "mine subt"); (case k7Qz => with_unfolding_all rfl)); (try dsimp only); (try k_fold))
  k_with "subscriptTail Name Constant ref int" => (k_here; (with_reducible show wpAny _ _ (subscriptTail _ _ (Value.ref _) (Value.int 0 _)) _ _ _); k_dflt ((first | with_reducible refine' tupAt_head ?htQz ?XQz ?FQz ?NQz ?stQz ?_ ?k7Qz | refine' tupAt_head ?htQz ?XQz ?FQz ?NQz ?stQz ?_ ?k7Qz); (case htQz => with_reducible assumption); (case XQz => k_asm); (case FQz => k_asm); (case NQz => k_asm); (case stQz => k_extra "mine subt"); (case k7Qz => with_unfolding_all rfl)); (try dsimp only); (try k_fold))
  k_with "compareOp Eq str str" => (k_here; (with_reducible show wpAny _ _ (compareOp CmpOp.Eq (Value.str _ _) (Value.str _ _)) _ _ _); k_dflt ((first | with_reducible refine' str_ne ?hnQz ?_ | refine' str_ne ?hnQz ?_); (case hnQz => with_reducible assumption)))
  k_with "compareOp NotEq str str" => (k_here; (with_reducible show wpAny _ _ (compareOp CmpOp.NotEq (Value.str _ _) (Value.str _ _)) _ _ _); k_dflt ((first | with_reducible refine' str_ne' ?hnQz ?_ | refine' str_ne' ?hnQz ?_); (case hnQz => with_reducible assumption)))
  exact True.intro
--#END
section
variable {prog : Program} {w : World} {A : Around} {E : Value → Shared → Prop} {s : Shared} {Q : Value → Shared → Prop} {h₀ : Heap} {L d : Addr} {news : Led} {od : Obj} {kvs : List (Str × Value)} {k : Str} {t : Tok} {v : Value}
theorem notin_named (hd : od.IsDictOf (PySem.strKind prog w) kvs) (N : News h₀ L s.heap news) (hp : (d, od) ∈ news) (lo : (d == sysModules) = false) (hv : valueAt kvs k = some v) (h : Q (.bool false) { s with toks := s.toks + 1 }) : wpAny (model prog w) A (compareOp .NotIn (.str k t) (.ref d)) Q E s :=
  kdg_notin N hp hd lo (PySem.strKind_is _ _ _ _) true (by rw [hv]; rfl) h
theorem item_named {value slice : Expr} (hd : od.IsDictOf (PySem.strKind prog w) kvs) (N : News h₀ L s.heap news) (hp : (d, od) ∈ news) (hv : valueAt kvs k = some v) (h : Q v { s with toks := s.toks + 1 })
    (hs : subscripted slice false (.ref d) (.str k t) = operate [.ref d, .str k t] (getItem (.ref d) (.str k t))) (hg : ∀ r, letTemporaryGo value (.ref d) r = pure ()) : wpAny (model prog w) A (subscriptTail value slice (.ref d) (.str k t)) Q E s :=
  kda_item N hp hd (PySem.strKind_is _ _ _ _) hv h hs hg
end
section
theorem ln19 : True := by
  k_with "getAttr ref" => (k_here; k_dflt ((first | with_reducible refine' get_own ?k1Qz ?k2Qz ?k3Qz ?k4Qz ?k5Qz ?k6Qz ?k7Qz ?k8Qz ?k9Qz ?_ | refine' get_own ?k1Qz ?k2Qz ?k3Qz ?k4Qz ?k5Qz ?k6Qz ?k7Qz ?k8Qz ?k9Qz ?_); (case k1Qz => k_asm); (case k2Qz => k_asm); (case k3Qz => (refine' InstAt.of_news ?NQz ?h1Qz ?h2Qz; (case NQz => k_asm); (case h1Qz => with_reducible assumption); (case h2Qz => with_reducible assumption))); (case k4Qz => k_is); (case k5Qz => k_is); (case k6Qz => k_is); (case k7Qz => k_is); (case k8Qz => assumption); (case k9Qz => exact rfl); k_whole); (try k_fold))
  k_with "getMethod ref" => (k_here; k_dflt ((first | with_reducible refine' method_inst ?k1Qz ?k2Qz ?k3Qz ?k4Qz ?k5Qz ?k6Qz ?k7Qz ?_ | refine' method_inst ?k1Qz ?k2Qz ?k3Qz ?k4Qz ?k5Qz ?k6Qz ?k7Qz ?_); (case k1Qz => k_asm); (case k2Qz => k_asm); (case k3Qz => (refine' InstAt.of_news ?NQz ?h1Qz ?h2Qz; (case NQz => k_asm); (case h1Qz => with_reducible assumption); (case h2Qz => with_reducible assumption))); (case k4Qz => k_is); (case k5Qz => k_is); (case k6Qz => k_is); (case k7Qz => assumption); k_whole))
  k_with "compareOp NotIn" => (k_here; k_dflt ((first | with_reducible refine' notin_named ?dQz ?NQz ?pQz ?loQz ?bQz ?_ | refine' notin_named ?dQz ?NQz ?pQz ?loQz ?bQz ?_); (case dQz => with_reducible assumption); (case NQz => k_asm); (case pQz => with_reducible assumption); (case loQz => assumption); (case bQz => with_reducible assumption)); (try k_fold))
  k_with "subscriptTail" => (k_here; (with_reducible show wpAny _ _ (subscriptTail _ _ (Value.ref _) (Value.str _ _)) _ _ _); k_dflt ((first | with_reducible refine' item_named ?dQz ?NQz ?pQz ?bQz ?_ ?zQz ?yQz | refine' item_named ?dQz ?NQz ?pQz ?bQz ?_ ?zQz ?yQz); (case dQz => with_reducible assumption); (case NQz => k_asm); (case pQz => with_reducible assumption); (case bQz => with_reducible assumption); (case zQz => with_unfolding_all rfl); (case yQz => (intro _; with_unfolding_all rfl))); (try k_fold))
  k_with "subscriptTail Name" => (k_here; (with_reducible show wpAny _ _ (subscriptTail _ _ (Value.ref _) (Value.str _ _)) _ _ _); k_dflt ((first | with_reducible refine' item_named ?dQz ?NQz ?pQz ?bQz ?_ ?zQz ?yQz | refine' item_named ?dQz ?NQz ?pQz ?bQz ?_ ?zQz ?yQz); (case dQz => with_reducible assumption); (case NQz => k_asm); (case pQz => with_reducible assumption); (case bQz => with_reducible assumption); (case zQz => with_unfolding_all rfl); (case yQz => (intro _; with_unfolding_all rfl))); (try k_fold))
  exact True.intro
set_option maxRecDepth 100000 in
set_option maxHeartbeats 8000000 in
theorem under_named (w : World) : Con w 28 480 6000 (fun g news vs => unPre w g news vs ∧ g.2.2.2 = .named) unPost := by
  unfold Con
  k_fill
  rintro ⟨fr, W, tv, ty⟩ mean mg mb env outer gd A₀ base h₀ L m news s vs Q E B F X N T hf hk ⟨⟨rfl, rfl, hW, hT⟩, rfl⟩ hret
  try dsimp only at *
  obtain ⟨d, es, n, nd, od, kvs, r, rd, res, rn, u, t1, t2, h1, h2, ⟨h3, h3b⟩, h4, h5, h6, h7, h8, h9, h10, h11⟩ := hW.ex
  cases hT
  have hk9 : TupAt news 238 _ := .inr .k238
  have hu9 : TupAt news u _ := .inl h11
  k_extra "mine enter"
  k_steps
  exact hret _ _ _ _ (by k_asm) (by k_asm) ⟨rfl, _, _, _, _, rfl, hu9, rfl⟩
set_option maxRecDepth 100000 in
set_option maxHeartbeats 8000000 in
theorem under_plain (w : World) : Con w 28 480 6000 (fun g news vs => unPre w g news vs ∧ isNamedTy g.2.2.2 = false) unPost := by
  unfold Con
  k_fill
  rintro ⟨fr, W, tv, ty⟩ mean mg mb env outer gd A₀ base h₀ L m news s vs Q E B F X N T hf hk ⟨⟨rfl, rfl, hW, hT⟩, hty⟩ hret
  try dsimp only at *
  obtain ⟨d, es, n, nd, od, kvs, r, rd, res, rn, u, t1, t2, h1, h2, ⟨h3, h3b⟩, h4, h5, h6, h7, h8, h9, h10, h11⟩ := hW.ex
  obtain ⟨a, x, t, vs, rfl, hat, hah, hxn⟩ := ty_head hT hty
  k_extra "mine enter"
  k_steps
  exact hret _ _ _ _ (by k_asm) (by k_asm) ⟨rfl, _, _, _, _, rfl, hat, hah⟩
end
theorem under_con (w : World) : Con w 28 480 6000 (unPre w) unPost := by
  intro g mean mg mb env outer gd A₀ base h₀ L m news s vs Q E B F X N T hf hk hp hret
  cases hn : isNamedTy g.2.2.2
  · exact under_plain w g mean mg mb env outer gd A₀ base h₀ L m news s vs Q E B F X N T hf hk ⟨hp, hn⟩ hret
  · refine under_named w g mean mg mb env outer gd A₀ base h₀ L m news s vs Q E B F X N T hf hk ⟨hp, ?_⟩ hret
    revert hn
    cases g.2.2.2 <;> intro hn <;> first | rfl | cases hn
theorem under_use {w : World} {W : Addr} {tv : Value} {ty : Ty} {l : Led}
    {mean : ExcName → Option Value} {mg mb : Str → Option Value} {A : Around} {env : Env} {outer : List Env} {A₀ : Around} {base h₀ : Heap} {L : Addr} {m : Str → Option Value} {news : Led} {s : Shared} {Q E : Value → Shared → Prop}
    (B : Below A₀ base outer h₀) (F : Fr h₀ L s.heap m) (X : (hd.heap_39 w.params).In h₀) (N : News h₀ L s.heap news) (T : Top hd.view_39 (looseW hd.view_39 [Str.ofString "ChanError"]) mean mg mb h₀)
    (a3 : A.frames = some (env :: outer)) (hf : env.frame = some L) (hk : env.scope.kind = .function) (a1 : A.handled = none) (a2 : A.depth ≤ 480) (a4 : A.units ≤ 6000)
    (hW : WorldAt w l W) (hT : TyIn l tv ty) (sb : Sub l news)
    (k : ∀ a x t vs h' tk', TupAt news a (.str x t :: vs) → ArrHead ty x → Fr h₀ L h' m → News h₀ L h' news → Q (.ref a) { s with heap := h', toks := tk' }) :
    wpAny (model PySem.Challenge.rw_on0017_01.row.prog w) A (call (.ref 28) [.ref W, tv]) Q E s :=
  (under_con w).use ⟨news, W, tv, ty⟩ B F X N T hf hk a1 a2 a3 a4 (fun _ m => m) ⟨rfl, rfl, hW.mono sb, hT.mono sb.T⟩ (fun r news' h' tk' F' N' hp => by
    obtain ⟨rfl, a, x, t, vs, rfl, h1, h2⟩ := hp
    exact k a x t vs _ _ h1 h2 F' N')
theorem ArrHead.split {ty : Ty} {x : Str} (h : ArrHead ty x) : (ty.isArr = true ∧ x = Str.ofString "array") ∨ (ty.isArr = false ∧ (x == Str.ofString "array") = false) := by
  unfold ArrHead at h
  cases e : ty.isArr
  · rw [e] at h; exact .inr ⟨rfl, h⟩
  · rw [e] at h; exact .inl ⟨rfl, h⟩
--#MACROS
theorem ln20 : True := by
  k_with "call ref" => (k_here; (with_reducible show wpAny _ _ (call (Value.ref 28) [Value.ref _, _]) _ _ _); k_dflt ((first | with_reducible refine' under_use ?k1Qz ?k2Qz ?k3Qz ?k4Qz ?k5Qz ?a3Qz ?hfQz ?hkQz ?a1Qz ?a2Qz ?a4Qz ?hWQz ?hTQz ?sbQz ?_ | refine' under_use ?k1Qz ?k2Qz ?k3Qz ?k4Qz ?k5Qz ?a3Qz ?hfQz ?hkQz ?a1Qz ?a2Qz ?a4Qz ?hWQz ?hTQz ?sbQz ?_); (case k2Qz => k_asm); (case k1Qz => k_asm); (case k3Qz => k_asm); (case k4Qz => k_asm); (case k5Qz => k_asm); (case a3Qz => exact rfl); (case hfQz => first | exact rfl | assumption); (case hkQz => first | exact rfl | assumption); (case a1Qz => exact rfl); (case a2Qz => k_extra "mine room"); (case a4Qz => k_extra "mine room"); (case hWQz => with_reducible assumption); (case hTQz => with_reducible assumption); (case sbQz => k_extra "mine sub")); intro a'e98 x'e98 t'e98 vs'e98 h'e98 tk'e98 hat'e98 hah'e98 F'e98 N'e98; (try dsimp only); (try k_sweep); (rcases ArrHead.split hah'e98 with ⟨hia'e98, hxa'e98⟩ | ⟨hia'e98, hxa'e98⟩ <;> clear hah'e98); (subst hxa'e98); all_goals (try k_fold))
  exact True.intro
--#END

end
theorem ln21 : True := by
  k_with_none
  k_with "eval Name" => (k_here; (with_reducible show wpAny _ _ (eval (PySem.Expr.Name _ _) (envOf _ _ _ _ _)) _ _ _); name_kind "globalImplicit"; k_dflt ((with_reducible refine' name_K ?k0Qz ?k1Qz ?k2Qz ?k3Qz ?_ ?aQz ?bQz ?cQz); (case k0Qz => with_reducible assumption); (case k1Qz => with_reducible assumption); (case k2Qz => k_asm); (case k3Qz => k_is); (case aQz => exact rfl); (case bQz => kernel_rfl!); (case cQz => decide +kernel); k_whole))
  k_with "eval Name" => (k_here; (with_reducible show wpAny _ _ (eval (PySem.Expr.Name _ _) (envOf _ _ _ _ _)) _ _ _); name_kind "globalImplicit"; name_is_builtin; k_dflt ((with_reducible refine' name_B ?k0Qz ?k1Qz ?k2Qz ?k3Qz ?k4Qz ?k5Qz ?_ ?aQz ?bQz ?cQz); (case k0Qz => with_reducible assumption); (case k1Qz => with_reducible assumption); (case k2Qz => k_asm); (case k3Qz => k_is); (case k4Qz => boot_fast); (case k5Qz => decide +kernel); (case aQz => exact rfl); (case bQz => kernel_rfl!); (case cQz => decide +kernel); k_whole))
  k_with "eval Name" => (k_here; (with_reducible show wpAny _ _ (eval (PySem.Expr.Name _ _) (envOf _ _ _ _ _)) _ _ _); name_kind "local"; k_dflt ((with_reducible refine' ld ?k1Qz ?k2Qz ?_ ?aQz ?bQz ?cQz); (case k1Qz => with_reducible assumption); (case aQz => exact rfl); (case bQz => kernel_rfl!); (case cQz => decide +kernel); (case k2Qz => exact rfl); k_whole))
  k_with "eval Name" => (k_here; (with_reducible show wpAny _ _ (eval (PySem.Expr.Name _ _) (envOfC _ _ _ _ _)) _ _ _); k_dflt first | (name_kind "local"; (with_reducible refine' nameC_L ?FQz ?vQz ?_ ?aQz ?bQz ?cQz); (case FQz => with_reducible assumption); (case aQz => exact rfl); (case bQz => kernel_rfl!); (case cQz => decide +kernel); (case vQz => first | exact rfl | assumption); k_whole) | (name_kind "cell"; (with_reducible refine' nameC_C ?NQz ?kQz ?mQz ?dQz ?_ ?aQz ?bQz ?cQz); (case aQz => exact rfl); (case bQz => kernel_rfl!); (case cQz => decide +kernel); (case NQz => with_reducible assumption); (case kQz => exact rfl); (case mQz => k_mem); (case dQz => k_asm); k_whole) | (name_kind "globalImplicit"; name_is_builtin; (with_reducible refine' nameC_B ?FQz ?XQz ?TQz ?eQz ?vQz ?nQz ?_ ?aQz ?bQz ?cQz); (case FQz => with_reducible assumption); (case XQz => with_reducible assumption); (case TQz => k_asm); (case aQz => exact rfl); (case bQz => kernel_rfl!); (case cQz => decide +kernel); (case eQz => k_is); (case vQz => boot_fast); (case nQz => decide +kernel); k_whole) | (name_kind "globalImplicit"; (with_reducible refine' nameC_K ?FQz ?XQz ?TQz ?eQz ?_ ?aQz ?bQz ?cQz); (case FQz => with_reducible assumption); (case XQz => with_reducible assumption); (case TQz => k_asm); (case aQz => exact rfl); (case bQz => kernel_rfl!); (case cQz => decide +kernel); (case eQz => k_is); k_whole))
  k_with "eval Name" => (k_here; (with_reducible show wpAny _ _ (eval (PySem.Expr.Name _ _) (compEnvC _ _ _ _)) _ _ _); k_dflt first | (name_kind "local"; (with_reducible refine' LCgL.ld_own ?NQz ?mQz ?CQz ?xQz ?_ ?aQz ?bQz ?cQz); (case NQz => with_reducible assumption); (case mQz => k_mem); (case CQz => with_reducible assumption); (case xQz => assumption); (case aQz => exact rfl); (case bQz => kernel_rfl!); (case cQz => decide +kernel); k_whole) | (name_kind "globalImplicit"; name_is_builtin; (with_reducible refine' LCgL.ld_built ?FQz ?XQz ?TQz ?eQz ?vQz ?nQz ?_ ?gQz ?hQz ?aQz ?bQz ?cQz); (case FQz => with_reducible assumption); (case XQz => with_reducible assumption); (case TQz => with_reducible assumption); (case gQz => exact rfl); (case hQz => exact rfl); (case aQz => exact rfl); (case bQz => kernel_rfl!); (case cQz => decide +kernel); (case eQz => k_is); (case vQz => boot_fast); (case nQz => decide +kernel); k_whole) | (name_kind "globalImplicit"; (with_reducible refine' LCgL.ld_global ?FQz ?XQz ?TQz ?eQz ?_ ?gQz ?aQz ?bQz ?cQz); (case FQz => with_reducible assumption); (case XQz => with_reducible assumption); (case TQz => with_reducible assumption); (case gQz => exact rfl); (case aQz => exact rfl); (case bQz => kernel_rfl!); (case cQz => decide +kernel); (case eQz => k_is); k_whole) | (name_kind "free"; (with_reducible refine' lcf_free ?NQz ?kQz ?mQz ?dQz ?_ ?aQz ?bQz ?cQz ?eQz); (case aQz => exact rfl); (case bQz => kernel_rfl!); (case cQz => decide +kernel); (case eQz => decide +kernel); (case NQz => with_reducible assumption); (case kQz => exact rfl); (case mQz => k_mem); (case dQz => k_asm); k_whole))
  k_with "newTuple" => (k_here; k_dflt ((with_reducible refine' kup_newTuple ?FQz ?NQz ?_ ?zQz); (case FQz => with_reducible assumption); (case NQz => with_reducible assumption); (case zQz => first | exact Nat.le_of_ble_eq_true rfl | kmk_size)); intro D'e5 h'e5 F'e5 N'e5 l1e5; (try k_sweep))
  k_with "newList" => (k_here; k_dflt ((with_reducible refine' newList_K ?FQz ?NQz ?_ ?zQz); (case FQz => with_reducible assumption); (case NQz => with_reducible assumption); (case zQz => first | exact Nat.le_of_ble_eq_true rfl | size_fits)); intro D'e6 h'e6 F'e6 N'e6 l1e6; (try k_sweep))
  k_with "And" => ((with_reducible show Frag.In _ _ ∧ _); refine' And.intro ?kQz ?_; (case kQz => k_dflt (first | with_reducible assumption | (refine' Frag.In.keeps ?xQz (Fr.keep ?fQz); (case fQz => with_reducible assumption); (case xQz => with_reducible assumption)) | k_in)); (try dsimp only [List.nil_append, List.cons_append]))
  k_with "execs cons" => (k_here; (try k_gentoks); (with_reducible refine' wpAny_execs_cons ?_); (try dsimp only); (try k_fold))
  k_with "ite" => (k_closed; first | (with_reducible refine' ite_tt ?_) | (with_reducible refine' ite_ff ?_) | ((with_reducible refine' ite_neg ?hQz ?_); (case hQz => decide +kernel)) | ((with_reducible refine' ite_pos ?hQz ?_); (case hQz => decide +kernel)))
  k_with "spliced" => k_dflt ((first | (with_reducible refine' args_cons (env := envOf _ _ _ _ _) ?_ ?heQz) | (with_reducible refine' args_cons (env := envOfC _ _ _ _ _) ?_ ?heQz)); (case heQz => exact rfl))
  k_with "eval Call" => k_dflt ((first | (with_reducible refine' Call_ (env := envOf _ _ _ _ _) ?_ ?heQz) | (with_reducible refine' Call_ (env := envOfC _ _ _ _ _) ?_ ?heQz)); (case heQz => exact rfl))
  k_with "exec Assign" => k_dflt ((first | (with_reducible refine' wpAny_Assign_Name (env := envOf _ _ _ _ _) ?_ ?heQz) | (with_reducible refine' wpAny_Assign_Name (env := envOfC _ _ _ _ _) ?_ ?heQz)); (case heQz => exact rfl); (try k_fold))
  k_with "callWith ref" => (k_here; k_dflt first | ((with_reducible refine' callWith_K ?k1Qz ?k2Qz ?_ ?heQz ?hpQz); (case k1Qz => with_reducible assumption); (case k2Qz => k_is); (case heQz => exact rfl); (case hpQz => exact rfl); k_whole) | ((with_reducible refine' callWith_K0 ?k1Qz ?k2Qz ?_); (case k1Qz => (first | with_reducible assumption | (refine' Frag.In.keeps ?xQz (Fr.keep ?fQz); (case fQz => with_reducible assumption); (case xQz => with_reducible assumption)) | k_in)); (case k2Qz => k_is); k_whole))
  k_with "storeName" => (k_here; k_dflt first | ((with_reducible refine' stN ?FQz ?NQz ?_ ?aQz ?bQz); (case FQz => with_reducible assumption); (case NQz => with_reducible assumption); (case aQz => exact rfl); (case bQz => kernel_rfl!); k_whole; intro h'e14 F'e14 N'e14; (try k_sweep)) | (name_kind "local"; (with_reducible refine' storeC_L ?FQz ?NQz ?_ ?aQz ?bQz); (case FQz => with_reducible assumption); (case NQz => with_reducible assumption); (case aQz => exact rfl); (case bQz => kernel_rfl!); k_whole; intro h'e14 F'e14 N'e14; (try k_sweep)))
  k_with "mine room" => first | exact Nat.le_of_ble_eq_true rfl | ((try simp only [recursionLimit]); (try dsimp only [Around.deeper, Around.in1, Around.mark, rnd]); first | exact room_le (by with_reducible assumption) rfl | omega) | fail "mine"
  k_with "mine enter" => (refine wpAny_call ?_; k_dflt ((with_reducible refine' code_def ?k1Qz ?k2Qz ?k3Qz ?k4Qz ?k5Qz ?kAQz ?kFQz ?kKQz ?k6Qz ?k7Qz ?k8Qz ?k9Qz ?kBQz ?_ ?c2Qz ?c3Qz ?c4Qz ?c5Qz); (case kAQz => exact rfl); (case kFQz => assumption); (case kKQz => assumption); (case k1Qz => k_asm); (case k2Qz => k_asm); (case k3Qz => k_asm); (case k4Qz => k_asm); (case k5Qz => k_asm); (case k6Qz => k_is); (case k7Qz => k_is); (case k8Qz => ktr_room); (case k9Qz => exact BindsTo.of_eq rfl); (case c5Qz => decide); (case kBQz => exact locs rfl); (case c2Qz => exact rfl); (case c3Qz => exact rfl); (case c4Qz => exact rfl); k_whole; intro g'e16 L'e16 h'e16 FG'e16 F'e16 N'e16 B'e16 X'e16 T'e16; (try dsimp only); (try k_fold)))
  k_with "mine pick" => first | exact Pick.head | (refine' Pick.tail ?pkQz; (case pkQz => k_extra "mine pick")) | fail "mine"
  k_with "mine mem" => first | with_reducible assumption | exact mem_hd | (refine' mem_tl ?pmQz; (case pmQz => k_extra "mine mem")) | (refine' Sub.mem ?pgQz ?pmQz; (case pgQz => with_reducible assumption); (case pmQz => k_extra "mine mem")) | (refine' Grow.mem ?pgQz ?pmQz; (case pgQz => with_reducible assumption); (case pmQz => k_extra "mine mem")) | fail "mine"
  k_with "mine at" => first | (with_reducible exact at_hd) | ((with_reducible refine' at_tl ?pmQz); (case pmQz => k_extra "mine at")) | fail "mine"
  k_with "mine pj" => first | with_reducible assumption | exact pj_l (by with_reducible assumption) | exact pj_l (pj_r (by with_reducible assumption)) | exact pj_r (by with_reducible assumption) | exact pj_l (pj_2 (by with_reducible assumption)) | exact pj_2 (by with_reducible assumption) | exact pj_l (pj_2 (pj_r (by with_reducible assumption))) | exact pj_2 (pj_r (by with_reducible assumption)) | exact pj_l (pj_4 (by with_reducible assumption)) | exact pj_4 (by with_reducible assumption) | exact pj_l (pj_4 (pj_r (by with_reducible assumption))) | exact pj_4 (pj_r (by with_reducible assumption)) | exact pj_l (pj_4 (pj_2 (by with_reducible assumption))) | exact pj_4 (pj_2 (by with_reducible assumption)) | exact pj_l (pj_4 (pj_2 (pj_r (by with_reducible assumption)))) | exact pj_4 (pj_2 (pj_r (by with_reducible assumption))) | exact pj_l (pj_8 (by with_reducible assumption)) | exact pj_8 (by with_reducible assumption) | exact pj_l (pj_8 (pj_r (by with_reducible assumption))) | exact pj_8 (pj_r (by with_reducible assumption)) | exact pj_l (pj_8 (pj_2 (by with_reducible assumption))) | exact pj_8 (pj_2 (by with_reducible assumption)) | exact pj_l (pj_8 (pj_2 (pj_r (by with_reducible assumption)))) | exact pj_8 (pj_2 (pj_r (by with_reducible assumption))) | exact pj_l (pj_8 (pj_4 (by with_reducible assumption))) | exact pj_8 (pj_4 (by with_reducible assumption)) | exact pj_l (pj_8 (pj_4 (pj_r (by with_reducible assumption)))) | exact pj_8 (pj_4 (pj_r (by with_reducible assumption))) | exact pj_l (pj_8 (pj_4 (pj_2 (by with_reducible assumption)))) | exact pj_8 (pj_4 (pj_2 (by with_reducible assumption))) | exact pj_l (pj_8 (pj_4 (pj_2 (pj_r (by with_reducible assumption))))) | exact pj_8 (pj_4 (pj_2 (pj_r (by with_reducible assumption)))) | exact pj_l (pj_16 (by with_reducible assumption)) | exact pj_16 (by with_reducible assumption) | exact pj_l (pj_16 (pj_r (by with_reducible assumption))) | exact pj_16 (pj_r (by with_reducible assumption)) | exact pj_l (pj_16 (pj_2 (by with_reducible assumption))) | exact pj_16 (pj_2 (by with_reducible assumption)) | exact pj_l (pj_16 (pj_2 (pj_r (by with_reducible assumption)))) | exact pj_16 (pj_2 (pj_r (by with_reducible assumption))) | exact pj_l (pj_16 (pj_4 (by with_reducible assumption))) | exact pj_16 (pj_4 (by with_reducible assumption)) | exact pj_l (pj_16 (pj_4 (pj_r (by with_reducible assumption)))) | exact pj_16 (pj_4 (pj_r (by with_reducible assumption))) | exact pj_l (pj_16 (pj_4 (pj_2 (by with_reducible assumption)))) | exact pj_16 (pj_4 (pj_2 (by with_reducible assumption))) | exact pj_l (pj_16 (pj_4 (pj_2 (pj_r (by with_reducible assumption))))) | exact pj_16 (pj_4 (pj_2 (pj_r (by with_reducible assumption)))) | exact pj_l (pj_16 (pj_8 (by with_reducible assumption))) | exact pj_16 (pj_8 (by with_reducible assumption)) | exact pj_l (pj_16 (pj_8 (pj_r (by with_reducible assumption)))) | exact pj_16 (pj_8 (pj_r (by with_reducible assumption))) | exact pj_l (pj_16 (pj_8 (pj_2 (by with_reducible assumption)))) | exact pj_16 (pj_8 (pj_2 (by with_reducible assumption))) | exact pj_l (pj_16 (pj_8 (pj_2 (pj_r (by with_reducible assumption))))) | exact pj_16 (pj_8 (pj_2 (pj_r (by with_reducible assumption)))) | exact pj_l (pj_16 (pj_8 (pj_4 (by with_reducible assumption)))) | exact pj_16 (pj_8 (pj_4 (by with_reducible assumption))) | exact pj_l (pj_16 (pj_8 (pj_4 (pj_r (by with_reducible assumption))))) | exact pj_16 (pj_8 (pj_4 (pj_r (by with_reducible assumption)))) | exact pj_l (pj_16 (pj_8 (pj_4 (pj_2 (by with_reducible assumption))))) | exact pj_16 (pj_8 (pj_4 (pj_2 (by with_reducible assumption)))) | exact pj_l (pj_16 (pj_8 (pj_4 (pj_2 (pj_r (by with_reducible assumption)))))) | exact pj_16 (pj_8 (pj_4 (pj_2 (pj_r (by with_reducible assumption))))) | fail "mine"
  k_with "mine new" => first | ((with_reducible refine' ne_new ?hQz ?mQz); (case hQz => with_reducible assumption); (case mQz => k_extra "mine at")) | ((with_reducible refine' ne_new' ?hQz ?mQz); (case hQz => with_reducible assumption); (case mQz => k_extra "mine at")) | ((with_reducible refine' Nat.ne_of_lt ?hQz); (case hQz => k_extra "mine pj")) | ((with_reducible refine' Nat.ne_of_gt ?hQz); (case hQz => k_extra "mine pj")) | fail "mine"
  k_with "mine ne" => first | assumption | (refine Ne.symm ?_; assumption) | k_extra "mine new" | (refine neN ?_; (try dsimp only); first | k_extra "mine new" | omega) | fail "mine"
  k_with "mine off" => first | with_reducible assumption | exact Off.nil | (refine Off.tup ?_; k_extra "mine off") | (refine Off.ne ?_ ?_; (k_extra "mine ne"); (k_extra "mine off")) | fail "mine"
  k_with "mine sub" => first | with_reducible assumption | exact Sub.refl | (refine Sub.tl ?_; k_extra "mine sub") | (refine' Sub.gr ?pgQz ?pkQz; (case pgQz => with_reducible assumption); (case pkQz => k_extra "mine sub")) | fail "mine"
  k_with "call ref" => (k_here; (with_reducible show wpAny _ _ (call (Value.ref 220) [Value.ref _, Value.int _ _]) _ _ _); k_dflt ((with_reducible refine' take_use ?k1Qz ?k2Qz ?k3Qz ?k4Qz ?k5Qz ?a3Qz ?hfQz ?hkQz ?a1Qz ?a2Qz ?a4Qz ?hsQz ?hoQz ?htQz ?offQz ?_); (case k1Qz => k_asm); (case k2Qz => k_asm); (case k3Qz => k_asm); (case k4Qz => k_asm); (case k5Qz => k_asm); (case a3Qz => exact rfl); (case hfQz => exact rfl); (case hkQz => exact rfl); (case a1Qz => exact rfl); (case a2Qz => k_extra "mine room"); (case a4Qz => k_extra "mine room"); (case hoQz => assumption); (case hsQz => k_extra "mine pick"); (case htQz => exact ⟨by decide, by decide⟩); (case offQz => k_extra "mine off")); intro d'e34 td'e34 o'e34 h'e34 tk'e34 hd0e34 hd1e34 ho'e34 F'e34 N'e34; (try dsimp only); (try k_sweep); (try k_fold))
  k_with "mine subt" => first | exact SubT.refl | with_reducible assumption | (refine' SubT.tl ?pkQz; (case pkQz => k_extra "mine subt")) | (refine' SubT.gr ?pgQz ?pkQz; (case pgQz => with_reducible assumption); (case pkQz => k_extra "mine subt")) | (refine' SubT.sb ?pgQz ?pkQz; (case pgQz => with_reducible assumption); (case pkQz => k_extra "mine subt")) | fail "mine"
  k_with "subscriptTail" => (k_here; (with_reducible show wpAny _ _ (subscriptTail _ _ (Value.ref _) (Value.int _ _)) _ _ _); k_dflt ((first | with_reducible refine' tupAt_item ?htQz ?XQz ?FQz ?NQz ?stQz ?k3Qz ?k4Qz ?k5Qz ?k6Qz ?_ ?k7Qz | refine' tupAt_item ?htQz ?XQz ?FQz ?NQz ?stQz ?k3Qz ?k4Qz ?k5Qz ?k6Qz ?_ ?k7Qz); (case htQz => with_reducible assumption); (case XQz => k_asm); (case FQz => k_asm); (case NQz => k_asm); (case stQz => k_extra "mine subt"); (case k3Qz => decide); (case k4Qz => decide); (case k5Qz => exact rfl); (case k6Qz => exact rfl); (case k7Qz => with_unfolding_all rfl)); (try dsimp only); (try k_fold))
  k_with "subscriptTail Name Constant ref int" => (k_here; (with_reducible show wpAny _ _ (subscriptTail _ _ (Value.ref _) (Value.int _ _)) _ _ _); k_dflt ((first | with_reducible refine' tupAt_item ?htQz ?XQz ?FQz ?NQz ?stQz ?k3Qz ?k4Qz ?k5Qz ?k6Qz ?_ ?k7Qz | refine' tupAt_item ?htQz ?XQz ?FQz ?NQz ?stQz ?k3Qz ?k4Qz ?k5Qz ?k6Qz ?_ ?k7Qz); (case htQz => with_reducible assumption); (case XQz => k_asm); (case FQz => k_asm); (case NQz => k_asm); (case stQz => k_extra "mine subt"); (case k3Qz => decide); (case k4Qz => decide); (case k5Qz => exact rfl); (case k6Qz => exact rfl); (case k7Qz => with_unfolding_all rfl)); (try dsimp only); (try k_fold))
  k_with "subscriptTail" => (k_here; (with_reducible show wpAny _ _ (subscriptTail _ _ (Value.ref _) (Value.int 0 _)) _ _ _); k_dflt ((first | with_reducible refine' tupAt_head ?htQz ?XQz ?FQz ?NQz ?stQz ?_ ?k7Qz | refine' tupAt_head ?htQz ?XQz ?FQz ?NQz ?stQz ?_ ?k7Qz); (case htQz => with_reducible assumption); (case XQz => k_asm); (case FQz => k_asm); (case NQz => k_asm); (case stQz => k_extra "mine subt"); (case k7Qz => with_unfolding_all rfl)); (try dsimp only); (try k_fold))
  k_with "subscriptTail Name Constant ref int" => (k_here; (with_reducible show wpAny _ _ (subscriptTail _ _ (Value.ref _) (Value.int 0 _)) _ _ _); k_dflt ((first | with_reducible refine' tupAt_head ?htQz ?XQz ?FQz ?NQz ?stQz ?_ ?k7Qz | refine' tupAt_head ?htQz ?XQz ?FQz ?NQz ?stQz ?_ ?k7Qz); (case htQz => with_reducible assumption); (case XQz => k_asm); (case FQz => k_asm); (case NQz => k_asm); (case stQz => k_extra "mine subt"); (case k7Qz => with_unfolding_all rfl)); (try dsimp only); (try k_fold))
  k_with "compareOp Eq str str" => (k_here; (with_reducible show wpAny _ _ (compareOp CmpOp.Eq (Value.str _ _) (Value.str _ _)) _ _ _); k_dflt ((first | with_reducible refine' str_ne ?hnQz ?_ | refine' str_ne ?hnQz ?_); (case hnQz => with_reducible assumption)))
  k_with "compareOp NotEq str str" => (k_here; (with_reducible show wpAny _ _ (compareOp CmpOp.NotEq (Value.str _ _) (Value.str _ _)) _ _ _); k_dflt ((first | with_reducible refine' str_ne' ?hnQz ?_ | refine' str_ne' ?hnQz ?_); (case hnQz => with_reducible assumption)))
  k_with "call ref" => (k_here; (with_reducible show wpAny _ _ (call (Value.ref 28) [Value.ref _, _]) _ _ _); k_dflt ((first | with_reducible refine' under_use ?k1Qz ?k2Qz ?k3Qz ?k4Qz ?k5Qz ?a3Qz ?hfQz ?hkQz ?a1Qz ?a2Qz ?a4Qz ?hWQz ?hTQz ?sbQz ?_ | refine' under_use ?k1Qz ?k2Qz ?k3Qz ?k4Qz ?k5Qz ?a3Qz ?hfQz ?hkQz ?a1Qz ?a2Qz ?a4Qz ?hWQz ?hTQz ?sbQz ?_); (case k2Qz => k_asm); (case k1Qz => k_asm); (case k3Qz => k_asm); (case k4Qz => k_asm); (case k5Qz => k_asm); (case a3Qz => exact rfl); (case hfQz => first | exact rfl | assumption); (case hkQz => first | exact rfl | assumption); (case a1Qz => exact rfl); (case a2Qz => k_extra "mine room"); (case a4Qz => k_extra "mine room"); (case hWQz => with_reducible assumption); (case hTQz => with_reducible assumption); (case sbQz => k_extra "mine sub")); intro a'e103 x'e103 t'e103 vs'e103 h'e103 tk'e103 hat'e103 hah'e103 F'e103 N'e103; (try dsimp only); (try k_sweep); (rcases ArrHead.split hah'e103 with ⟨hia'e103, hxa'e103⟩ | ⟨hia'e103, hxa'e103⟩ <;> clear hah'e103); (subst hxa'e103); all_goals (try k_fold))
  exact True.intro
--PART A15Root
section
local macro_rules | `(tactic| k_all) => `(tactic| assumption)
local macro_rules | `(tactic| k_mem) => `(tactic| k_extra "mine mem")
structure PD where
  (ty : Ty) (r : Option Nat) (b : Bool) (d : Nat)
noncomputable def pdRel (l : Led) (v : Value) (c : PD) : Prop := PlaceIn l v c.ty c.r c.b c.d
noncomputable def pdI (a b : PD) : Prop := b.r = a.r
theorem root_while {prog : Program} {w : World} {A : Around} {E : Value → Shared → Prop} {Q : Flow → Shared → Prop} {s : Shared} {env : Env} {h₀ : Heap} {L : Addr} {test : Expr} {body : List Stmt} {pos : Pos} {m₀ : Str → Option Value} {news : Led} {pv : Value} {ty : Ty} {r : Option Nat} {b : Bool} {d : Nat}
    (hP : PlaceIn news pv ty r b d) (F : Fr h₀ L s.heap m₀) (N : News h₀ L s.heap news) (hy : m₀ (Str.ofString "place") = some pv) (hE : PassesOwn (model prog w) A env E)
    (turn : ∀ v ty' b' d' (u : Str → Option Value) h tk, PlaceIn news v ty' r b' d' → Fr h₀ L h (fun x => if x = Str.ofString "place" then some v else if [Str.ofString "inner"].contains x then u x else m₀ x) → News h₀ L h news →
      wpAny (model prog w) A (isTrue test env (eval test env)) (fun bb s₂ =>
        if bb = true then wpAny (model prog w) A (execs body env) (KwdPost0 h₀ L s pdRel PD.d (pdI ⟨ty, r, b, d⟩) (Str.ofString "place") [Str.ofString "inner"] m₀ news Q ⟨ty', r, b', d'⟩) E s₂ else Q .next s₂) E { s with heap := h, toks := tk }) :
    wpAny (model prog w) A (exec (.While test body [] pos) env) Q E s := by
  refine kwd_while0 (Rel := pdRel) (y := Str.ofString "place") (d₀ := ⟨ty, r, b, d⟩) [Str.ofString "inner"] PD.d pdI F N hy hP rfl ?_ hE
  rintro v ⟨ty', r', b', d'⟩ u h tk hR hI F' N'
  have e : r' = r := hI
  subst e
  exact turn v ty' b' d' u h tk hR F' N'
theorem root_kend {h₀ : Heap} {L : Addr} {s : Shared} {m₀ m' : Str → Option Value} {news news' : Led} {h' : Heap} {tk : Nat} {v' : Value} {ty ty' ty2 : Ty} {r : Option Nat} {b b' b2 : Bool} {d d' d2 : Nat}
    (hP : PlaceIn news v' ty2 r b2 d2) (F : Fr h₀ L h' m') (N : News h₀ L h' news') (hn : Sub news news') (hv : m' (Str.ofString "place") = some v') (hlt : d2 < d')
    (hm : ∀ x, x ≠ Str.ofString "place" → [Str.ofString "inner"].contains x = false → m' x = m₀ x) : KwdEnd0 h₀ L s pdRel PD.d (pdI ⟨ty, r, b, d⟩) (Str.ofString "place") [Str.ofString "inner"] m₀ news ⟨ty', r, b', d'⟩ { s with heap := h', toks := tk } :=
  KwdEnd0.intro (Rel := pdRel) (d' := ⟨ty2, r, b2, d2⟩) F N hn hv hP rfl hlt hm
theorem root_kend_ix {h₀ : Heap} {L : Addr} {s : Shared} {m₀ m' : Str → Option Value} {news news' : Led} {h' : Heap} {tk : Nat} {v' : Value} {ty ty' ty2 : Ty} {r : Option Nat} {b b' b2 : Bool} {d d' d2 : Nat}
    (hP : PlaceIn news v' ty2 r b2 d2) (hia : ty2.isArr = true) (F : Fr h₀ L h' m') (N : News h₀ L h' news') (hn : Sub news news') (hv : m' (Str.ofString "place") = some v') (hlt : d2 < d')
    (hm : ∀ x, x ≠ Str.ofString "place" → [Str.ofString "inner"].contains x = false → m' x = m₀ x) : KwdEnd0 h₀ L s pdRel PD.d (pdI ⟨ty, if ty2.isArr then r else none, b, d⟩) (Str.ofString "place") [Str.ofString "inner"] m₀ news ⟨ty', if ty2.isArr then r else none, b', d'⟩ { s with heap := h', toks := tk } := by
  have e : (if ty2.isArr then r else none) = r := by rw [hia]; rfl
  rw [e]
  exact root_kend hP F N hn hv hlt hm
theorem rootV_no {ty : Ty} {r : Option Nat} (h : ty.isArr = false) : RootV (if ty.isArr then r else none) .none := by rw [h]; rfl
theorem rootV_int {n : Nat} {x : Tok} : RootV (some n) (.int (n : Int) x) := ⟨_, rfl⟩
theorem rootV_none : RootV none .none := rfl
theorem tup_mem {l : Led} {a : Addr} {vs : List Value} (h : (a, tupO vs) ∈ l) : TupAt l a vs := .inl h
structure RtG where
  (fr : Led) (pv : Value) (W : Addr) (ty : Ty) (r : Option Nat) (b : Bool) (d : Nat)
noncomputable def rtPre (w : World) (g : RtG) (news : Led) (vs : List Value) : Prop := news = g.fr ∧ vs = [g.pv, .ref g.W] ∧ PlaceIn g.fr g.pv g.ty g.r g.b g.d ∧ WorldAt w g.fr g.W
noncomputable def rtPost (g : RtG) (news : Led) (v : Value) : Prop := news = g.fr ∧ RootV g.r v
theorem same_end {h₀ h : Heap} {L : Addr} {m : Str → Option Value} {news news' : Led} {s : Shared} {Q : Value → Shared → Prop} {post : Led → Value → Prop} {v : Value} {tk : Nat}
    (hret : ∀ r news' h' tk', Fr h₀ L h' m → News h₀ L h' news' → post news' r → Q r { s with heap := h', toks := tk' })
    (F : Fr h₀ L h m) (N : News h₀ L h news') (sb : Sub news news') (hp : post news v) : Q v { s with heap := h, toks := tk } := hret _ news _ _ F (fun p hp => N p (sb p hp)) hp
section
theorem ln22 : True := by
  k_with "exec While Compare cons nil" => (k_here; (with_reducible rename PlaceIn _ _ _ _ _ _ => hP9e104); k_dflt ((first | with_reducible refine' root_while hP9e104 ?FQz ?NQz ?hyQz ?hEQz ?_ | refine' root_while hP9e104 ?FQz ?NQz ?hyQz ?hEQz ?_); (case FQz => k_asm); (case NQz => k_asm); (case hyQz => exact rfl); (case hEQz => passes_own)); clear hP9e104; intro v'e104 ty'e104 b'e104 d'e104 u'e104 h'e104 tk'e104 hP'e104 F'e104 N'e104; (try dsimp only); (try k_sweep); (cases hP'e104); all_goals ((try (rename PlaceIn _ _ _ _ _ _ => h9e104; have h8e104 := h9e104.isRef; obtain ⟨p9'e104, e9'e104⟩ := h8e104; subst e9'e104)); (try k_fold)))
  k_with "subscriptTail" => (k_here; (with_reducible show wpAny _ _ (subscriptTail _ _ (Value.ref _) (Value.int 1 _)) _ _ _); k_dflt ((first | with_reducible refine' place_ty ?k1Qz ?hPQz ?stQz ?_ ?k7Qz | refine' place_ty ?k1Qz ?hPQz ?stQz ?_ ?k7Qz); (case hPQz => with_reducible assumption); (case k1Qz => k_asm); (case stQz => k_extra "mine subt"); (case k7Qz => with_unfolding_all rfl)); intro tv'e63 hT'e63; (try dsimp only); (try k_fold))
  k_with "subscriptTail Name Constant ref int" => (k_here; (with_reducible show wpAny _ _ (subscriptTail _ _ (Value.ref _) (Value.int 1 _)) _ _ _); k_dflt ((first | with_reducible refine' place_ty ?k1Qz ?hPQz ?stQz ?_ ?k7Qz | refine' place_ty ?k1Qz ?hPQz ?stQz ?_ ?k7Qz); (case hPQz => with_reducible assumption); (case k1Qz => k_asm); (case stQz => k_extra "mine subt"); (case k7Qz => with_unfolding_all rfl)); intro tv'e64 hT'e64; (try dsimp only); (try k_fold))
  k_with "KwdEnd0" => (k_here; k_dflt ((first | with_reducible refine' root_kend ?hPQz ?FQz ?NQz ?hnQz ?hvQz ?hltQz ?hmQz | refine' root_kend ?hPQz ?FQz ?NQz ?hnQz ?hvQz ?hltQz ?hmQz); (case hPQz => with_reducible assumption); (case FQz => k_asm); (case NQz => k_asm); (case hnQz => k_extra "mine sub"); (case hvQz => exact rfl); (case hltQz => omega); (case hmQz => kwd_same0)))
  k_with "KwdEnd0" => (k_here; k_dflt ((first | with_reducible refine' root_kend_ix ?hPQz ?hiaQz ?FQz ?NQz ?hnQz ?hvQz ?hltQz ?hmQz | refine' root_kend_ix ?hPQz ?hiaQz ?FQz ?NQz ?hnQz ?hvQz ?hltQz ?hmQz); (case hPQz => with_reducible assumption); (case hiaQz => with_reducible assumption); (case FQz => k_asm); (case NQz => k_asm); (case hnQz => k_extra "mine sub"); (case hvQz => exact rfl); (case hltQz => omega); (case hmQz => kwd_same0)))
  exact True.intro
set_option maxRecDepth 100000 in
set_option maxHeartbeats 8000000 in
theorem root_con (w : World) : Con w 35 470 5800 (rtPre w) rtPost := by
  unfold Con
  k_fill
  rintro ⟨fr, pv, W, ty, r, b, d⟩ mean mg mb env outer gd A₀ base h₀ L m news s vs Q E B F X N T hf hk ⟨rfl, rfl, hP, hW⟩ hret
  try dsimp only at *
  k_extra "mine enter"
  k_steps
  all_goals (refine' same_end hret ?F ?N ?sb ?q; (case F => k_asm); (case N => k_asm); (case q => first | exact ⟨rfl, rootV_int⟩ | exact ⟨rfl, rootV_none⟩ | exact ⟨rfl, rootV_no (by with_reducible assumption)⟩); (case sb => k_extra "mine sub"))
end
theorem root_use {w : World} {W : Addr} {pv : Value} {ty : Ty} {r : Option Nat} {b : Bool} {d : Nat} {l : Led}
    {mean : ExcName → Option Value} {mg mb : Str → Option Value} {A : Around} {env : Env} {outer : List Env} {A₀ : Around} {base h₀ : Heap} {L : Addr} {m : Str → Option Value} {news : Led} {s : Shared} {Q E : Value → Shared → Prop}
    (B : Below A₀ base outer h₀) (F : Fr h₀ L s.heap m) (X : (hd.heap_39 w.params).In h₀) (N : News h₀ L s.heap news) (T : Top hd.view_39 (looseW hd.view_39 [Str.ofString "ChanError"]) mean mg mb h₀)
    (a3 : A.frames = some (env :: outer)) (hf : env.frame = some L) (hk : env.scope.kind = .function) (a1 : A.handled = none) (a2 : A.depth ≤ 470) (a4 : A.units ≤ 5800)
    (hP : PlaceIn l pv ty r b d) (hW : WorldAt w l W) (sb : Sub l news)
    (k : ∀ v h' tk', RootV r v → Fr h₀ L h' m → News h₀ L h' news → Q v { s with heap := h', toks := tk' }) :
    wpAny (model PySem.Challenge.rw_on0017_01.row.prog w) A (call (.ref 35) [pv, .ref W]) Q E s :=
  (root_con w).use ⟨news, pv, W, ty, r, b, d⟩ B F X N T hf hk a1 a2 a3 a4 (fun _ m => m) ⟨rfl, rfl, hP.mono sb.T, hW.mono sb⟩ (fun v news' h' tk' F' N' hp => by
    obtain ⟨rfl, h1⟩ := hp
    exact k v _ _ h1 F' N')
--#MACROS
theorem ln23 : True := by
  k_with "call ref" => (k_here; (with_reducible show wpAny _ _ (call (Value.ref 35) [_, Value.ref _]) _ _ _); k_dflt ((first | with_reducible refine' root_use ?k1Qz ?k2Qz ?k3Qz ?k4Qz ?k5Qz ?a3Qz ?hfQz ?hkQz ?a1Qz ?a2Qz ?a4Qz ?hPQz ?hWQz ?sbQz ?_ | refine' root_use ?k1Qz ?k2Qz ?k3Qz ?k4Qz ?k5Qz ?a3Qz ?hfQz ?hkQz ?a1Qz ?a2Qz ?a4Qz ?hPQz ?hWQz ?sbQz ?_); (case k2Qz => k_asm); (case k1Qz => k_asm); (case k3Qz => k_asm); (case k4Qz => k_asm); (case k5Qz => k_asm); (case a3Qz => exact rfl); (case hfQz => first | exact rfl | assumption); (case hkQz => first | exact rfl | assumption); (case a1Qz => exact rfl); (case a2Qz => k_extra "mine room"); (case a4Qz => k_extra "mine room"); (case hPQz => with_reducible assumption); (case hWQz => with_reducible assumption); (case sbQz => k_extra "mine sub")); intro v'e107 h'e107 tk'e107 hR'e107 F'e107 N'e107; (try dsimp only); (try k_sweep); (rename Option Nat => r9e107; cases r9e107 <;> (dsimp only [RootV] at hR'e107) <;> (first | subst hR'e107 | (obtain ⟨rt'e107, hR'e107⟩ := hR'e107; subst hR'e107))); all_goals (try k_fold))
  exact True.intro
--#END

end
theorem ln24 : True := by
  k_with_none
  k_with "eval Name" => (k_here; (with_reducible show wpAny _ _ (eval (PySem.Expr.Name _ _) (envOf _ _ _ _ _)) _ _ _); name_kind "globalImplicit"; k_dflt ((with_reducible refine' name_K ?k0Qz ?k1Qz ?k2Qz ?k3Qz ?_ ?aQz ?bQz ?cQz); (case k0Qz => with_reducible assumption); (case k1Qz => with_reducible assumption); (case k2Qz => k_asm); (case k3Qz => k_is); (case aQz => exact rfl); (case bQz => kernel_rfl!); (case cQz => decide +kernel); k_whole))
  k_with "eval Name" => (k_here; (with_reducible show wpAny _ _ (eval (PySem.Expr.Name _ _) (envOf _ _ _ _ _)) _ _ _); name_kind "globalImplicit"; name_is_builtin; k_dflt ((with_reducible refine' name_B ?k0Qz ?k1Qz ?k2Qz ?k3Qz ?k4Qz ?k5Qz ?_ ?aQz ?bQz ?cQz); (case k0Qz => with_reducible assumption); (case k1Qz => with_reducible assumption); (case k2Qz => k_asm); (case k3Qz => k_is); (case k4Qz => boot_fast); (case k5Qz => decide +kernel); (case aQz => exact rfl); (case bQz => kernel_rfl!); (case cQz => decide +kernel); k_whole))
  k_with "eval Name" => (k_here; (with_reducible show wpAny _ _ (eval (PySem.Expr.Name _ _) (envOf _ _ _ _ _)) _ _ _); name_kind "local"; k_dflt ((with_reducible refine' ld ?k1Qz ?k2Qz ?_ ?aQz ?bQz ?cQz); (case k1Qz => with_reducible assumption); (case aQz => exact rfl); (case bQz => kernel_rfl!); (case cQz => decide +kernel); (case k2Qz => exact rfl); k_whole))
  k_with "eval Name" => (k_here; (with_reducible show wpAny _ _ (eval (PySem.Expr.Name _ _) (envOfC _ _ _ _ _)) _ _ _); k_dflt first | (name_kind "local"; (with_reducible refine' nameC_L ?FQz ?vQz ?_ ?aQz ?bQz ?cQz); (case FQz => with_reducible assumption); (case aQz => exact rfl); (case bQz => kernel_rfl!); (case cQz => decide +kernel); (case vQz => first | exact rfl | assumption); k_whole) | (name_kind "cell"; (with_reducible refine' nameC_C ?NQz ?kQz ?mQz ?dQz ?_ ?aQz ?bQz ?cQz); (case aQz => exact rfl); (case bQz => kernel_rfl!); (case cQz => decide +kernel); (case NQz => with_reducible assumption); (case kQz => exact rfl); (case mQz => k_mem); (case dQz => k_asm); k_whole) | (name_kind "globalImplicit"; name_is_builtin; (with_reducible refine' nameC_B ?FQz ?XQz ?TQz ?eQz ?vQz ?nQz ?_ ?aQz ?bQz ?cQz); (case FQz => with_reducible assumption); (case XQz => with_reducible assumption); (case TQz => k_asm); (case aQz => exact rfl); (case bQz => kernel_rfl!); (case cQz => decide +kernel); (case eQz => k_is); (case vQz => boot_fast); (case nQz => decide +kernel); k_whole) | (name_kind "globalImplicit"; (with_reducible refine' nameC_K ?FQz ?XQz ?TQz ?eQz ?_ ?aQz ?bQz ?cQz); (case FQz => with_reducible assumption); (case XQz => with_reducible assumption); (case TQz => k_asm); (case aQz => exact rfl); (case bQz => kernel_rfl!); (case cQz => decide +kernel); (case eQz => k_is); k_whole))
  k_with "eval Name" => (k_here; (with_reducible show wpAny _ _ (eval (PySem.Expr.Name _ _) (compEnvC _ _ _ _)) _ _ _); k_dflt first | (name_kind "local"; (with_reducible refine' LCgL.ld_own ?NQz ?mQz ?CQz ?xQz ?_ ?aQz ?bQz ?cQz); (case NQz => with_reducible assumption); (case mQz => k_mem); (case CQz => with_reducible assumption); (case xQz => assumption); (case aQz => exact rfl); (case bQz => kernel_rfl!); (case cQz => decide +kernel); k_whole) | (name_kind "globalImplicit"; name_is_builtin; (with_reducible refine' LCgL.ld_built ?FQz ?XQz ?TQz ?eQz ?vQz ?nQz ?_ ?gQz ?hQz ?aQz ?bQz ?cQz); (case FQz => with_reducible assumption); (case XQz => with_reducible assumption); (case TQz => with_reducible assumption); (case gQz => exact rfl); (case hQz => exact rfl); (case aQz => exact rfl); (case bQz => kernel_rfl!); (case cQz => decide +kernel); (case eQz => k_is); (case vQz => boot_fast); (case nQz => decide +kernel); k_whole) | (name_kind "globalImplicit"; (with_reducible refine' LCgL.ld_global ?FQz ?XQz ?TQz ?eQz ?_ ?gQz ?aQz ?bQz ?cQz); (case FQz => with_reducible assumption); (case XQz => with_reducible assumption); (case TQz => with_reducible assumption); (case gQz => exact rfl); (case aQz => exact rfl); (case bQz => kernel_rfl!); (case cQz => decide +kernel); (case eQz => k_is); k_whole) | (name_kind "free"; (with_reducible refine' lcf_free ?NQz ?kQz ?mQz ?dQz ?_ ?aQz ?bQz ?cQz ?eQz); (case aQz => exact rfl); (case bQz => kernel_rfl!); (case cQz => decide +kernel); (case eQz => decide +kernel); (case NQz => with_reducible assumption); (case kQz => exact rfl); (case mQz => k_mem); (case dQz => k_asm); k_whole))
  k_with "newTuple" => (k_here; k_dflt ((with_reducible refine' kup_newTuple ?FQz ?NQz ?_ ?zQz); (case FQz => with_reducible assumption); (case NQz => with_reducible assumption); (case zQz => first | exact Nat.le_of_ble_eq_true rfl | kmk_size)); intro D'e5 h'e5 F'e5 N'e5 l1e5; (try k_sweep))
  k_with "newList" => (k_here; k_dflt ((with_reducible refine' newList_K ?FQz ?NQz ?_ ?zQz); (case FQz => with_reducible assumption); (case NQz => with_reducible assumption); (case zQz => first | exact Nat.le_of_ble_eq_true rfl | size_fits)); intro D'e6 h'e6 F'e6 N'e6 l1e6; (try k_sweep))
  k_with "And" => ((with_reducible show Frag.In _ _ ∧ _); refine' And.intro ?kQz ?_; (case kQz => k_dflt (first | with_reducible assumption | (refine' Frag.In.keeps ?xQz (Fr.keep ?fQz); (case fQz => with_reducible assumption); (case xQz => with_reducible assumption)) | k_in)); (try dsimp only [List.nil_append, List.cons_append]))
  k_with "execs cons" => (k_here; (try k_gentoks); (with_reducible refine' wpAny_execs_cons ?_); (try dsimp only); (try k_fold))
  k_with "ite" => (k_closed; first | (with_reducible refine' ite_tt ?_) | (with_reducible refine' ite_ff ?_) | ((with_reducible refine' ite_neg ?hQz ?_); (case hQz => decide +kernel)) | ((with_reducible refine' ite_pos ?hQz ?_); (case hQz => decide +kernel)))
  k_with "spliced" => k_dflt ((first | (with_reducible refine' args_cons (env := envOf _ _ _ _ _) ?_ ?heQz) | (with_reducible refine' args_cons (env := envOfC _ _ _ _ _) ?_ ?heQz)); (case heQz => exact rfl))
  k_with "eval Call" => k_dflt ((first | (with_reducible refine' Call_ (env := envOf _ _ _ _ _) ?_ ?heQz) | (with_reducible refine' Call_ (env := envOfC _ _ _ _ _) ?_ ?heQz)); (case heQz => exact rfl))
  k_with "exec Assign" => k_dflt ((first | (with_reducible refine' wpAny_Assign_Name (env := envOf _ _ _ _ _) ?_ ?heQz) | (with_reducible refine' wpAny_Assign_Name (env := envOfC _ _ _ _ _) ?_ ?heQz)); (case heQz => exact rfl); (try k_fold))
  k_with "callWith ref" => (k_here; k_dflt first | ((with_reducible refine' callWith_K ?k1Qz ?k2Qz ?_ ?heQz ?hpQz); (case k1Qz => with_reducible assumption); (case k2Qz => k_is); (case heQz => exact rfl); (case hpQz => exact rfl); k_whole) | ((with_reducible refine' callWith_K0 ?k1Qz ?k2Qz ?_); (case k1Qz => (first | with_reducible assumption | (refine' Frag.In.keeps ?xQz (Fr.keep ?fQz); (case fQz => with_reducible assumption); (case xQz => with_reducible assumption)) | k_in)); (case k2Qz => k_is); k_whole))
  k_with "storeName" => (k_here; k_dflt first | ((with_reducible refine' stN ?FQz ?NQz ?_ ?aQz ?bQz); (case FQz => with_reducible assumption); (case NQz => with_reducible assumption); (case aQz => exact rfl); (case bQz => kernel_rfl!); k_whole; intro h'e14 F'e14 N'e14; (try k_sweep)) | (name_kind "local"; (with_reducible refine' storeC_L ?FQz ?NQz ?_ ?aQz ?bQz); (case FQz => with_reducible assumption); (case NQz => with_reducible assumption); (case aQz => exact rfl); (case bQz => kernel_rfl!); k_whole; intro h'e14 F'e14 N'e14; (try k_sweep)))
  k_with "mine room" => first | exact Nat.le_of_ble_eq_true rfl | ((try simp only [recursionLimit]); (try dsimp only [Around.deeper, Around.in1, Around.mark, rnd]); first | exact room_le (by with_reducible assumption) rfl | omega) | fail "mine"
  k_with "mine enter" => (refine wpAny_call ?_; k_dflt ((with_reducible refine' code_def ?k1Qz ?k2Qz ?k3Qz ?k4Qz ?k5Qz ?kAQz ?kFQz ?kKQz ?k6Qz ?k7Qz ?k8Qz ?k9Qz ?kBQz ?_ ?c2Qz ?c3Qz ?c4Qz ?c5Qz); (case kAQz => exact rfl); (case kFQz => assumption); (case kKQz => assumption); (case k1Qz => k_asm); (case k2Qz => k_asm); (case k3Qz => k_asm); (case k4Qz => k_asm); (case k5Qz => k_asm); (case k6Qz => k_is); (case k7Qz => k_is); (case k8Qz => ktr_room); (case k9Qz => exact BindsTo.of_eq rfl); (case c5Qz => decide); (case kBQz => exact locs rfl); (case c2Qz => exact rfl); (case c3Qz => exact rfl); (case c4Qz => exact rfl); k_whole; intro g'e16 L'e16 h'e16 FG'e16 F'e16 N'e16 B'e16 X'e16 T'e16; (try dsimp only); (try k_fold)))
  k_with "mine pick" => first | exact Pick.head | (refine' Pick.tail ?pkQz; (case pkQz => k_extra "mine pick")) | fail "mine"
  k_with "mine mem" => first | with_reducible assumption | exact mem_hd | (refine' mem_tl ?pmQz; (case pmQz => k_extra "mine mem")) | (refine' Sub.mem ?pgQz ?pmQz; (case pgQz => with_reducible assumption); (case pmQz => k_extra "mine mem")) | (refine' Grow.mem ?pgQz ?pmQz; (case pgQz => with_reducible assumption); (case pmQz => k_extra "mine mem")) | fail "mine"
  k_with "mine at" => first | (with_reducible exact at_hd) | ((with_reducible refine' at_tl ?pmQz); (case pmQz => k_extra "mine at")) | fail "mine"
  k_with "mine pj" => first | with_reducible assumption | exact pj_l (by with_reducible assumption) | exact pj_l (pj_r (by with_reducible assumption)) | exact pj_r (by with_reducible assumption) | exact pj_l (pj_2 (by with_reducible assumption)) | exact pj_2 (by with_reducible assumption) | exact pj_l (pj_2 (pj_r (by with_reducible assumption))) | exact pj_2 (pj_r (by with_reducible assumption)) | exact pj_l (pj_4 (by with_reducible assumption)) | exact pj_4 (by with_reducible assumption) | exact pj_l (pj_4 (pj_r (by with_reducible assumption))) | exact pj_4 (pj_r (by with_reducible assumption)) | exact pj_l (pj_4 (pj_2 (by with_reducible assumption))) | exact pj_4 (pj_2 (by with_reducible assumption)) | exact pj_l (pj_4 (pj_2 (pj_r (by with_reducible assumption)))) | exact pj_4 (pj_2 (pj_r (by with_reducible assumption))) | exact pj_l (pj_8 (by with_reducible assumption)) | exact pj_8 (by with_reducible assumption) | exact pj_l (pj_8 (pj_r (by with_reducible assumption))) | exact pj_8 (pj_r (by with_reducible assumption)) | exact pj_l (pj_8 (pj_2 (by with_reducible assumption))) | exact pj_8 (pj_2 (by with_reducible assumption)) | exact pj_l (pj_8 (pj_2 (pj_r (by with_reducible assumption)))) | exact pj_8 (pj_2 (pj_r (by with_reducible assumption))) | exact pj_l (pj_8 (pj_4 (by with_reducible assumption))) | exact pj_8 (pj_4 (by with_reducible assumption)) | exact pj_l (pj_8 (pj_4 (pj_r (by with_reducible assumption)))) | exact pj_8 (pj_4 (pj_r (by with_reducible assumption))) | exact pj_l (pj_8 (pj_4 (pj_2 (by with_reducible assumption)))) | exact pj_8 (pj_4 (pj_2 (by with_reducible assumption))) | exact pj_l (pj_8 (pj_4 (pj_2 (pj_r (by with_reducible assumption))))) | exact pj_8 (pj_4 (pj_2 (pj_r (by with_reducible assumption)))) | exact pj_l (pj_16 (by with_reducible assumption)) | exact pj_16 (by with_reducible assumption) | exact pj_l (pj_16 (pj_r (by with_reducible assumption))) | exact pj_16 (pj_r (by with_reducible assumption)) | exact pj_l (pj_16 (pj_2 (by with_reducible assumption))) | exact pj_16 (pj_2 (by with_reducible assumption)) | exact pj_l (pj_16 (pj_2 (pj_r (by with_reducible assumption)))) | exact pj_16 (pj_2 (pj_r (by with_reducible assumption))) | exact pj_l (pj_16 (pj_4 (by with_reducible assumption))) | exact pj_16 (pj_4 (by with_reducible assumption)) | exact pj_l (pj_16 (pj_4 (pj_r (by with_reducible assumption)))) | exact pj_16 (pj_4 (pj_r (by with_reducible assumption))) | exact pj_l (pj_16 (pj_4 (pj_2 (by with_reducible assumption)))) | exact pj_16 (pj_4 (pj_2 (by with_reducible assumption))) | exact pj_l (pj_16 (pj_4 (pj_2 (pj_r (by with_reducible assumption))))) | exact pj_16 (pj_4 (pj_2 (pj_r (by with_reducible assumption)))) | exact pj_l (pj_16 (pj_8 (by with_reducible assumption))) | exact pj_16 (pj_8 (by with_reducible assumption)) | exact pj_l (pj_16 (pj_8 (pj_r (by with_reducible assumption)))) | exact pj_16 (pj_8 (pj_r (by with_reducible assumption))) | exact pj_l (pj_16 (pj_8 (pj_2 (by with_reducible assumption)))) | exact pj_16 (pj_8 (pj_2 (by with_reducible assumption))) | exact pj_l (pj_16 (pj_8 (pj_2 (pj_r (by with_reducible assumption))))) | exact pj_16 (pj_8 (pj_2 (pj_r (by with_reducible assumption)))) | exact pj_l (pj_16 (pj_8 (pj_4 (by with_reducible assumption)))) | exact pj_16 (pj_8 (pj_4 (by with_reducible assumption))) | exact pj_l (pj_16 (pj_8 (pj_4 (pj_r (by with_reducible assumption))))) | exact pj_16 (pj_8 (pj_4 (pj_r (by with_reducible assumption)))) | exact pj_l (pj_16 (pj_8 (pj_4 (pj_2 (by with_reducible assumption))))) | exact pj_16 (pj_8 (pj_4 (pj_2 (by with_reducible assumption)))) | exact pj_l (pj_16 (pj_8 (pj_4 (pj_2 (pj_r (by with_reducible assumption)))))) | exact pj_16 (pj_8 (pj_4 (pj_2 (pj_r (by with_reducible assumption))))) | fail "mine"
  k_with "mine new" => first | ((with_reducible refine' ne_new ?hQz ?mQz); (case hQz => with_reducible assumption); (case mQz => k_extra "mine at")) | ((with_reducible refine' ne_new' ?hQz ?mQz); (case hQz => with_reducible assumption); (case mQz => k_extra "mine at")) | ((with_reducible refine' Nat.ne_of_lt ?hQz); (case hQz => k_extra "mine pj")) | ((with_reducible refine' Nat.ne_of_gt ?hQz); (case hQz => k_extra "mine pj")) | fail "mine"
  k_with "mine ne" => first | assumption | (refine Ne.symm ?_; assumption) | k_extra "mine new" | (refine neN ?_; (try dsimp only); first | k_extra "mine new" | omega) | fail "mine"
  k_with "mine off" => first | with_reducible assumption | exact Off.nil | (refine Off.tup ?_; k_extra "mine off") | (refine Off.ne ?_ ?_; (k_extra "mine ne"); (k_extra "mine off")) | fail "mine"
  k_with "mine sub" => first | with_reducible assumption | exact Sub.refl | (refine Sub.tl ?_; k_extra "mine sub") | (refine' Sub.gr ?pgQz ?pkQz; (case pgQz => with_reducible assumption); (case pkQz => k_extra "mine sub")) | fail "mine"
  k_with "call ref" => (k_here; (with_reducible show wpAny _ _ (call (Value.ref 220) [Value.ref _, Value.int _ _]) _ _ _); k_dflt ((with_reducible refine' take_use ?k1Qz ?k2Qz ?k3Qz ?k4Qz ?k5Qz ?a3Qz ?hfQz ?hkQz ?a1Qz ?a2Qz ?a4Qz ?hsQz ?hoQz ?htQz ?offQz ?_); (case k1Qz => k_asm); (case k2Qz => k_asm); (case k3Qz => k_asm); (case k4Qz => k_asm); (case k5Qz => k_asm); (case a3Qz => exact rfl); (case hfQz => exact rfl); (case hkQz => exact rfl); (case a1Qz => exact rfl); (case a2Qz => k_extra "mine room"); (case a4Qz => k_extra "mine room"); (case hoQz => assumption); (case hsQz => k_extra "mine pick"); (case htQz => exact ⟨by decide, by decide⟩); (case offQz => k_extra "mine off")); intro d'e34 td'e34 o'e34 h'e34 tk'e34 hd0e34 hd1e34 ho'e34 F'e34 N'e34; (try dsimp only); (try k_sweep); (try k_fold))
  k_with "mine subt" => first | exact SubT.refl | with_reducible assumption | (refine' SubT.tl ?pkQz; (case pkQz => k_extra "mine subt")) | (refine' SubT.gr ?pgQz ?pkQz; (case pgQz => with_reducible assumption); (case pkQz => k_extra "mine subt")) | (refine' SubT.sb ?pgQz ?pkQz; (case pgQz => with_reducible assumption); (case pkQz => k_extra "mine subt")) | fail "mine"
  k_with "subscriptTail" => (k_here; (with_reducible show wpAny _ _ (subscriptTail _ _ (Value.ref _) (Value.int _ _)) _ _ _); k_dflt ((first | with_reducible refine' tupAt_item ?htQz ?XQz ?FQz ?NQz ?stQz ?k3Qz ?k4Qz ?k5Qz ?k6Qz ?_ ?k7Qz | refine' tupAt_item ?htQz ?XQz ?FQz ?NQz ?stQz ?k3Qz ?k4Qz ?k5Qz ?k6Qz ?_ ?k7Qz); (case htQz => with_reducible assumption); (case XQz => k_asm); (case FQz => k_asm); (case NQz => k_asm); (case stQz => k_extra "mine subt"); (case k3Qz => decide); (case k4Qz => decide); (case k5Qz => exact rfl); (case k6Qz => exact rfl); (case k7Qz => with_unfolding_all rfl)); (try dsimp only); (try k_fold))
  k_with "subscriptTail Name Constant ref int" => (k_here; (with_reducible show wpAny _ _ (subscriptTail _ _ (Value.ref _) (Value.int _ _)) _ _ _); k_dflt ((first | with_reducible refine' tupAt_item ?htQz ?XQz ?FQz ?NQz ?stQz ?k3Qz ?k4Qz ?k5Qz ?k6Qz ?_ ?k7Qz | refine' tupAt_item ?htQz ?XQz ?FQz ?NQz ?stQz ?k3Qz ?k4Qz ?k5Qz ?k6Qz ?_ ?k7Qz); (case htQz => with_reducible assumption); (case XQz => k_asm); (case FQz => k_asm); (case NQz => k_asm); (case stQz => k_extra "mine subt"); (case k3Qz => decide); (case k4Qz => decide); (case k5Qz => exact rfl); (case k6Qz => exact rfl); (case k7Qz => with_unfolding_all rfl)); (try dsimp only); (try k_fold))
  k_with "subscriptTail" => (k_here; (with_reducible show wpAny _ _ (subscriptTail _ _ (Value.ref _) (Value.int 0 _)) _ _ _); k_dflt ((first | with_reducible refine' tupAt_head ?htQz ?XQz ?FQz ?NQz ?stQz ?_ ?k7Qz | refine' tupAt_head ?htQz ?XQz ?FQz ?NQz ?stQz ?_ ?k7Qz); (case htQz => with_reducible assumption); (case XQz => k_asm); (case FQz => k_asm); (case NQz => k_asm); (case stQz => k_extra "mine subt"); (case k7Qz => with_unfolding_all rfl)); (try dsimp only); (try k_fold))
  k_with "subscriptTail Name Constant ref int" => (k_here; (with_reducible show wpAny _ _ (subscriptTail _ _ (Value.ref _) (Value.int 0 _)) _ _ _); k_dflt ((first | with_reducible refine' tupAt_head ?htQz ?XQz ?FQz ?NQz ?stQz ?_ ?k7Qz | refine' tupAt_head ?htQz ?XQz ?FQz ?NQz ?stQz ?_ ?k7Qz); (case htQz => with_reducible assumption); (case XQz => k_asm); (case FQz => k_asm); (case NQz => k_asm); (case stQz => k_extra "mine subt"); (case k7Qz => with_unfolding_all rfl)); (try dsimp only); (try k_fold))
  k_with "compareOp Eq str str" => (k_here; (with_reducible show wpAny _ _ (compareOp CmpOp.Eq (Value.str _ _) (Value.str _ _)) _ _ _); k_dflt ((first | with_reducible refine' str_ne ?hnQz ?_ | refine' str_ne ?hnQz ?_); (case hnQz => with_reducible assumption)))
  k_with "compareOp NotEq str str" => (k_here; (with_reducible show wpAny _ _ (compareOp CmpOp.NotEq (Value.str _ _) (Value.str _ _)) _ _ _); k_dflt ((first | with_reducible refine' str_ne' ?hnQz ?_ | refine' str_ne' ?hnQz ?_); (case hnQz => with_reducible assumption)))
  k_with "call ref" => (k_here; (with_reducible show wpAny _ _ (call (Value.ref 28) [Value.ref _, _]) _ _ _); k_dflt ((first | with_reducible refine' under_use ?k1Qz ?k2Qz ?k3Qz ?k4Qz ?k5Qz ?a3Qz ?hfQz ?hkQz ?a1Qz ?a2Qz ?a4Qz ?hWQz ?hTQz ?sbQz ?_ | refine' under_use ?k1Qz ?k2Qz ?k3Qz ?k4Qz ?k5Qz ?a3Qz ?hfQz ?hkQz ?a1Qz ?a2Qz ?a4Qz ?hWQz ?hTQz ?sbQz ?_); (case k2Qz => k_asm); (case k1Qz => k_asm); (case k3Qz => k_asm); (case k4Qz => k_asm); (case k5Qz => k_asm); (case a3Qz => exact rfl); (case hfQz => first | exact rfl | assumption); (case hkQz => first | exact rfl | assumption); (case a1Qz => exact rfl); (case a2Qz => k_extra "mine room"); (case a4Qz => k_extra "mine room"); (case hWQz => with_reducible assumption); (case hTQz => with_reducible assumption); (case sbQz => k_extra "mine sub")); intro a'e103 x'e103 t'e103 vs'e103 h'e103 tk'e103 hat'e103 hah'e103 F'e103 N'e103; (try dsimp only); (try k_sweep); (rcases ArrHead.split hah'e103 with ⟨hia'e103, hxa'e103⟩ | ⟨hia'e103, hxa'e103⟩ <;> clear hah'e103); (subst hxa'e103); all_goals (try k_fold))
  k_with "call ref" => (k_here; (with_reducible show wpAny _ _ (call (Value.ref 35) [_, Value.ref _]) _ _ _); k_dflt ((first | with_reducible refine' root_use ?k1Qz ?k2Qz ?k3Qz ?k4Qz ?k5Qz ?a3Qz ?hfQz ?hkQz ?a1Qz ?a2Qz ?a4Qz ?hPQz ?hWQz ?sbQz ?_ | refine' root_use ?k1Qz ?k2Qz ?k3Qz ?k4Qz ?k5Qz ?a3Qz ?hfQz ?hkQz ?a1Qz ?a2Qz ?a4Qz ?hPQz ?hWQz ?sbQz ?_); (case k2Qz => k_asm); (case k1Qz => k_asm); (case k3Qz => k_asm); (case k4Qz => k_asm); (case k5Qz => k_asm); (case a3Qz => exact rfl); (case hfQz => first | exact rfl | assumption); (case hkQz => first | exact rfl | assumption); (case a1Qz => exact rfl); (case a2Qz => k_extra "mine room"); (case a4Qz => k_extra "mine room"); (case hPQz => with_reducible assumption); (case hWQz => with_reducible assumption); (case sbQz => k_extra "mine sub")); intro v'e108 h'e108 tk'e108 hR'e108 F'e108 N'e108; (try dsimp only); (try k_sweep); (rename Option Nat => r9e108; cases r9e108 <;> (dsimp only [RootV] at hR'e108) <;> (first | subst hR'e108 | (obtain ⟨rt'e108, hR'e108⟩ := hR'e108; subst hR'e108))); all_goals (try k_fold))
  exact True.intro
--PART A16Boxed
section
local macro_rules | `(tactic| k_all) => `(tactic| assumption)
local macro_rules | `(tactic| k_mem) => `(tactic| k_extra "mine mem")
theorem tupAt_len {prog : Program} {w : World} {A : Around} {E : Value → Shared → Prop} {s : Shared} {Q : Value → Shared → Prop} {P : Params} {h₀ : Heap} {L : Addr} {m : Str → Option Value} {l news : Led} {a : Addr} {vs : List Value}
    (ht : TupAt l a vs) (X : (hd.heap_39 P).In h₀) (F : Fr h₀ L s.heap m) (N : News h₀ L s.heap news) (st : SubT l news) (hz : vs.length ≤ 1000) (h : Q (.int vs.length (s.toks + 1)) { s with toks := s.toks + 1 + 1 }) : wpAny (model prog w) A (call (.builtin "len") [.ref a]) Q E s := by
  have q : IsTup s.heap a vs.toArray := ⟨_, ht.get (X.keeps F.keep) N st, rfl, _, rfl⟩
  exact len_tuple q (by rw [List.size_toArray]; omega) (by simpa using h)
theorem stored_keys {kvs : List (Int × Value)} {k : Int} {v : Value} (x : Int) : x ∈ (stored kvs k v).map (·.1) ↔ x ∈ kvs.map (·.1) ∨ x = k := by
  unfold stored
  by_cases h : kvs.any (fun kv => kv.1 = k) = true
  · rw [if_pos h]
    have e : (kvs.map fun kv => if kv.1 = k then (kv.1, v) else kv).map (·.1) = kvs.map (·.1) := by
      rw [List.map_map]
      apply List.map_congr_left
      intro p _
      show (if p.1 = k then (p.1, v) else p).1 = p.1
      split <;> rfl
    rw [e]
    refine ⟨.inl, fun q => q.elim id fun q => ?_⟩
    subst q
    obtain ⟨p, hp, hk⟩ := List.any_eq_true.mp h
    exact List.mem_map.mpr ⟨p, hp, of_decide_eq_true hk⟩
  · rw [if_neg h, List.map_append, List.mem_append]
    simp
theorem stored_len {kvs : List (Int × Value)} {k : Int} {v : Value} : (stored kvs k v).length ≤ kvs.length + 1 := by
  unfold stored
  split <;> simp
theorem isDict_cls {prog : Program} {w : World} {o : Obj} {kvs : List (Int × Value)} (h : o.IsDictOf (PySem.intKind prog w) kvs) : o.cls ≠ .type "tuple" := by
  obtain ⟨es, ep, hx, _⟩ := h
  rw [hx.1]
  exact fun e => absurd (Value.type.inj e) (by decide)
theorem found_set {prog : Program} {w : World} {A : Around} {E : Value → Shared → Prop} {s : Shared} {h₀ : Heap} {L fo : Addr} {m : Str → Option Value} {fr news : Led} {od : Obj} {kvs : List (Int × Value)} {k : Int} {t : Tok} {v : Value} {Q : Unit → Shared → Prop}
    (hd : od.IsDictOf (PySem.intKind prog w) kvs) (hl : kvs.length ≤ 100000) (F : Fr h₀ L s.heap m) (N : News h₀ L s.heap news) (hs : Pick (fo, od) news fr) (hoff : Off fo fr)
    (h : ∀ h' od', od'.IsDictOf (PySem.intKind prog w) (stored kvs k v) → Fr h₀ L h' m → News h₀ L h' ((fo, od') :: fr) → Q () { s with heap := h', toks := s.toks + 1 }) : wpAny (model prog w) A (setItem (.ref fo) (.int k t) v) Q E s := by
  have N1 : News h₀ L s.heap ((fo, od) :: fr) := fun p m => N p (hs.sub p m)
  exact kda_set F N1 (.head (hoff.ok N1 (isDict_cls hd))) hd (PySem.intKind_is _ _ _ _) (by rw [sizeLine_eq]; omega) fun h' o' F' N' hd' => h h' o' hd' F' N'
theorem str_plain {prog : Program} {w : World} {A : Around} {E : Value → Shared → Prop} {s : Shared} {Q : Value → Shared → Prop} {x y : Str} {t u : Tok} (hp : x ∈ plainHeads) (hn : plainHeads.contains y = false) (h : Q (.bool false) s) : wpAny (model prog w) A (compareOp .Eq (.str x t) (.str y u)) Q E s :=
  str_ne (by
    rw [beq_eq_false_iff_ne]
    rintro rfl
    rw [List.contains_iff_mem.mpr hp] at hn
    cases hn) h
/-- is_part -/
structure IpG where
  (fr : Led) (pv : Value) (ty : Ty) (r : Option Nat) (b : Bool) (d : Nat)
noncomputable def ipPre (g : IpG) (news : Led) (vs : List Value) : Prop := news = g.fr ∧ vs = [g.pv] ∧ PlaceIn g.fr g.pv g.ty g.r g.b g.d
noncomputable def ipPost (g : IpG) (news : Led) (v : Value) : Prop := news = g.fr ∧ ((v = .bool true ∧ g.b = false) ∨ (v = .bool false ∧ (g.b = true ∨ g.r = none)))
set_option maxRecDepth 100000 in
set_option maxHeartbeats 8000000 in
theorem ispart_con (w : World) : Con w 42 460 5700 ipPre ipPost := by
  unfold Con
  k_fill
  rintro ⟨fr, pv, ty, r, b, d⟩ mean mg mb env outer gd A₀ base h₀ L m news s vs Q E B F X N T hf hk ⟨rfl, rfl, hP⟩ hret
  try dsimp only at *
  cases hP
  all_goals (k_extra "mine enter")
  all_goals k_steps
  all_goals (refine' same_end hret ?F ?N ?sb ?q; (case F => k_asm); (case N => k_asm); (case q => first | exact ⟨rfl, .inl ⟨rfl, rfl⟩⟩ | exact ⟨rfl, .inr ⟨rfl, .inl rfl⟩⟩ | exact ⟨rfl, .inr ⟨rfl, .inr rfl⟩⟩); (case sb => k_extra "mine sub"))
theorem ispart_use {w : World} {pv : Value} {ty : Ty} {r : Option Nat} {b : Bool} {d : Nat} {l : Led}
    {mean : ExcName → Option Value} {mg mb : Str → Option Value} {A : Around} {env : Env} {outer : List Env} {A₀ : Around} {base h₀ : Heap} {L : Addr} {m : Str → Option Value} {news : Led} {s : Shared} {Q E : Value → Shared → Prop}
    (B : Below A₀ base outer h₀) (F : Fr h₀ L s.heap m) (X : (hd.heap_39 w.params).In h₀) (N : News h₀ L s.heap news) (T : Top hd.view_39 (looseW hd.view_39 [Str.ofString "ChanError"]) mean mg mb h₀)
    (a3 : A.frames = some (env :: outer)) (hf : env.frame = some L) (hk : env.scope.kind = .function) (a1 : A.handled = none) (a2 : A.depth ≤ 460) (a4 : A.units ≤ 5700)
    (hP : PlaceIn l pv ty r b d) (sb : Sub l news)
    (k1 : ∀ h' tk', b = false → Fr h₀ L h' m → News h₀ L h' news → Q (.bool true) { s with heap := h', toks := tk' })
    (k2 : ∀ h' tk', (b = true ∨ r = none) → Fr h₀ L h' m → News h₀ L h' news → Q (.bool false) { s with heap := h', toks := tk' }) :
    wpAny (model PySem.Challenge.rw_on0017_01.row.prog w) A (call (.ref 42) [pv]) Q E s :=
  (ispart_con w).use ⟨news, pv, ty, r, b, d⟩ B F X N T hf hk a1 a2 a3 a4 (fun _ m => m) ⟨rfl, rfl, hP.mono sb.T⟩ (fun v news' h' tk' F' N' hp => by
    obtain ⟨rfl, ⟨rfl, e⟩ | ⟨rfl, e⟩⟩ := hp
    · exact k1 _ _ e F' N'
    · exact k2 _ _ e F' N')
structure BoG where
  (fr : Led) (a : Addr) (W fo : Addr) (od : Obj) (kvs : List (Int × Value)) (x : Str) (t : Tok) (vs : List Value) (own : List Int)
noncomputable def boPre (w : World) (g : BoG) (news : Led) (vs : List Value) : Prop :=
  news = (g.fo, g.od) :: g.fr ∧ vs = [.ref g.a, .ref g.W, .ref g.fo] ∧ TupAt g.fr g.a (.str g.x g.t :: g.vs) ∧ Own g.fr g.x g.vs g.own ∧ WorldAt w g.fr g.W ∧ Off g.fo g.fr ∧ g.od.IsDictOf (PySem.intKind PySem.Challenge.rw_on0017_01.row.prog w) g.kvs ∧ g.kvs.length ≤ 50000
noncomputable def boPost (w : World) (g : BoG) (news : Led) (v : Value) : Prop :=
  ∃ od kvs fr, v = .none ∧ news = (g.fo, od) :: fr ∧ Grow g.fr fr ∧ od.IsDictOf (PySem.intKind PySem.Challenge.rw_on0017_01.row.prog w) kvs ∧ (∀ y, y ∈ kvs.map (·.1) ↔ y ∈ g.kvs.map (·.1) ∨ y ∈ g.own) ∧ kvs.length ≤ g.kvs.length + 1
theorem bo_end {w : World} {h₀ h : Heap} {L : Addr} {m : Str → Option Value} {g : BoG} {fr' news : Led} {s : Shared} {Q : Value → Shared → Prop} {od : Obj} {kvs : List (Int × Value)} {tk : Nat}
    (hret : ∀ r news' h' tk', Fr h₀ L h' m → News h₀ L h' news' → boPost w g news' r → Q r { s with heap := h', toks := tk' })
    (hd : od.IsDictOf (PySem.intKind PySem.Challenge.rw_on0017_01.row.prog w) kvs) (F : Fr h₀ L h m) (N : News h₀ L h news) (hs : Pick (g.fo, od) news fr') (sb : Sub g.fr fr') (hk : ∀ y, y ∈ kvs.map (·.1) ↔ y ∈ g.kvs.map (·.1) ∨ y ∈ g.own) (hl : kvs.length ≤ g.kvs.length + 1) :
    Q .none { s with heap := h, toks := tk } := by
  refine hret _ ((g.fo, od) :: clean g.fr fr') _ _ F (fun p m => N p (hs.sub p ?_)) ⟨od, kvs, _, rfl, rfl, Grow.clean, hd, hk, hl⟩
  rcases List.mem_cons.mp m with rfl | m
  · exact .head _
  · exact .tail _ (sb.clean p m)
theorem own_no {ty : Ty} {r : Option Nat} (h : ty.isArr = false) : (if ty.isArr then rootL r else []) = [] := by rw [h]; rfl
theorem own_arr0 {ty : Ty} (h : ty.isArr = true) : (if ty.isArr then rootL none else []) = [] := by rw [h]; rfl
theorem own_arr1 {ty : Ty} {n : Nat} (h : ty.isArr = true) : (if ty.isArr then rootL (some n) else []) = [(n : Int)] := by rw [h]; rfl
theorem own_w {b : Bool} {r : Option Nat} (h : b = true ∨ r = none) : (if b then [] else rootL r) = [] := by rcases h with rfl | rfl <;> simp [rootL]
theorem own_n {b : Bool} : (if b then [] else rootL none) = [] := by cases b <;> rfl
theorem own_p {b : Bool} {n : Nat} (h : b = false) : (if b then [] else rootL (some n)) = [(n : Int)] := by subst h; rfl

end
--PART A16bList
section
/-- grown by tuples, and by what lies at ax -/
noncomputable def GrowX (ax : Addr) (a b : Led) : Prop := Sub a b ∧ ∀ p ∈ b, p ∈ a ∨ p.2.cls = .type "tuple" ∨ p.1 = ax
theorem Grow.X {ax : Addr} {a b : Led} (g : Grow a b) : GrowX ax a b := ⟨g.1, fun p m => (g.2 p m).imp id .inl⟩
theorem GrowX.back {ax : Addr} {a b : Led} {o : Obj} {h₀ h : Heap} {L : Addr} (g : GrowX ax a b) (hm : (ax, o) ∈ a) (N : News h₀ L h b) : Grow a b := ⟨g.1, fun p m => by
  rcases g.2 p m with q | q | q
  · exact .inl q
  · exact .inr q
  · have z := (N p m).1
    have z' := (N _ (g.1 _ hm)).1
    dsimp only at z'
    rw [q, z'] at z
    refine .inl ?_
    obtain ⟨b, ob⟩ := p
    have e : o = ob := Option.some.inj z
    dsimp only at q
    subst q e
    exact hm⟩
section
variable {prog : Program} {w : World} {A : Around} {E : Value → Shared → Prop} {s : Shared} {env : Env} {h₀ : Heap} {x : Str} {body : List Stmt} {Q : Flow → Shared → Prop}
theorem loop_list {σ : Type} {ax : Addr} {its : Array Value} {k : Nat} {m₀ : Str → Option Value}
    (mu : σ → Led) (adr : List Addr) (ps : σ → List (Str × Value)) (stored : List Str) (Inv : Nat → σ → Led → Prop) (c₀ : σ) (fr₀ : Led)
    (hadr : ∀ c, (mu c).map (·.1) = adr) (hmono : ∀ i c fr fr', SubT fr fr' → Inv i c fr → Inv i c fr') (hh : A.handled = none) (hm : (ax, listOf its k) ∈ fr₀) (hax : ax ∉ adr)
    (F : Fr h₀ env.locals s.heap m₀) (N : News h₀ env.locals s.heap (mu c₀ ++ fr₀)) (ho : OffA adr fr₀) (hk : ∀ p ∈ ps c₀, m₀ p.1 = some p.2) (h0 : Inv 0 c₀ fr₀)
    (turn : ∀ i v c fr (u : Str → Option Value) h tk, i < its.size → its[i]? = some v → Sub fr₀ fr → OffA adr fr → Inv i c fr →
      Fr h₀ env.locals h (fun y => if y = x then some v else kstB (fun z => if stored.contains z then u z else m₀ z) (ps c) y) → News h₀ env.locals h (mu c ++ fr) →
      wpAny (model prog w) A (execs body env) (TurnPost (GrowX ax) h₀ env.locals mu adr ps x stored m₀ (Inv (i + 1)) fr { s with heap := h, toks := tk } Q) E { s with heap := h, toks := tk })
    (done : ∀ c fr (u : Str → Option Value) h tk, Grow fr₀ fr → OffA adr fr → Inv its.size c fr → Fr h₀ env.locals h (fun y => if y = x then u y else kstB (fun z => if stored.contains z then u z else m₀ z) (ps c) y) → News h₀ env.locals h (mu c ++ fr) → Q .next { s with heap := h, toks := tk }) :
    wpAny (model prog w) A (pyIter (.ref ax)) (fun it s₂ => LoopAtV prog w A h₀ env x body Q E it s₂) E s := by
  have hN := N _ (mem_apR hm)
  have hl : s.heap.IsList ax its := ⟨_, hN.1, rfl, k, rfl⟩
  have hlt : ax < s.heap.objs.size := Heap.lt_size hN.1
  refine wpAny_pyIter_list hl ?_
  have W := Walks.list (prog := prog) (w := w) hh s.heap.objs.size ax (Nat.ne_of_lt hlt) its
  have nw : ∀ p ∈ mu c₀ ++ fr₀, p.1 ≠ s.heap.objs.size := fun p hp e => absurd (Heap.lt_size (N p hp).1) (e ▸ Nat.lt_irrefl _)
  refine loop_fr (GrowX ax) mu adr ps stored Inv c₀ fr₀ Grow.refl.X (fun _ _ g => g.1) (fun frJ own fr' g ho g' sb => ⟨sb, fun p hp => ?_⟩) hadr hmono W ?_ ?_ ?_ ?_ ?_ ⟨⟨_, Heap.get?_push_size _ rfl, rfl, rfl⟩, hl.push _⟩ (F.push _) (fun p hp => ⟨Heap.get?_push_of_some _ (N p hp).1, (N p hp).2⟩) ho hk h0 turn
    (fun c fr u h tk g o i F' N' => done c fr u h tk (g.back hm fun p hp => N' p (mem_apR hp)) o i F' N')
  · obtain ⟨hp, hw⟩ := List.mem_filter.mp hp
    rcases g'.2 p hp with q | q | q
    · rcases List.mem_append.mp q with q | q
      · exact g.2 p q
      · have z := ho p q
        simp at z hw
        rcases z with z | z
        · exact absurd z hw
        · exact .inr (.inr z)
    · exact .inr (.inl q)
    · exact .inr (.inr q)
  · intro i h hi b hb
    rcases List.mem_cons.mp hb with rfl | hb
    · obtain ⟨o, e, hc, _⟩ := hi.1
      exact ⟨o, e, by rw [hc]; exact fun e => absurd (Value.type.inj e) (by decide)⟩
    · rw [List.mem_singleton.mp hb]
      obtain ⟨o, e, hc, _⟩ := hi.2
      exact ⟨o, e, by rw [hc]; exact fun e => absurd (Value.type.inj e) (by decide)⟩
  · intro hm'
    rcases List.mem_cons.mp hm' with e | hm'
    · exact absurd F.ns.lt (e ▸ Nat.lt_irrefl _)
    · exact hN.2.1 (List.mem_singleton.mp hm').symm
  · intro b hb
    rw [List.mem_singleton.mp hb]
    exact next_is_new F
  · intro b hb ha
    rcases List.mem_cons.mp hb with rfl | hb
    · rw [← hadr c₀] at ha
      obtain ⟨p, hp, e⟩ := List.mem_map.mp ha
      exact nw p (mem_apL hp) e
    · exact hax (List.mem_singleton.mp hb ▸ ha)
  · intro p hp hI
    exact nw p (mem_apR hp) (List.mem_singleton.mp hI)
end
structure FD where
  (od : Obj) (kvs : List (Int × Value))
noncomputable def fdMu (fo : Addr) (c : FD) : Led := [(fo, c.od)]
noncomputable def accTo (own : List Int) (i : Nat) : List Int := if i = 0 then [] else own
noncomputable def fdInv (w : World) (ks : List Int) (len : Nat) (own : List Int) (i : Nat) (c : FD) (_ : Led) : Prop :=
  c.od.IsDictOf (PySem.intKind PySem.Challenge.rw_on0017_01.row.prog w) c.kvs ∧ (∀ y, y ∈ c.kvs.map (·.1) ↔ y ∈ ks ∨ y ∈ accTo own i) ∧ c.kvs.length ≤ len + (if i = 0 then 0 else 1)
noncomputable def boTmp : List Str := [Str.ofString "local"]
noncomputable def BoTurn (w : World) (h₀ : Heap) (L fo : Addr) (x : Str) (m₀ : Str → Option Value) (ks : List Int) (len : Nat) (own : List Int) (ax : Addr) (i : Nat) (fr : Led) (s₁ : Shared) (Q : Flow → Shared → Prop) (f : Flow) (s₂ : Shared) : Prop :=
  TurnPost (GrowX ax) h₀ L (fdMu fo) [fo] (fun _ => []) x boTmp m₀ (fdInv w ks len own (i + 1)) fr s₁ Q f s₂
noncomputable def OwnIs (_ : List Int) : Prop := True
theorem bo_loop {w : World} {A : Around} {E : Value → Shared → Prop} {s : Shared} {env : Env} {h₀ : Heap} {x : Str} {body : List Stmt} {Q : Flow → Shared → Prop} {ax fo : Addr} {vs : List Value} {k : Nat} {m₀ : Str → Option Value} {od : Obj} {kvs : List (Int × Value)} {news fr₀ : Led} {own : List Int} (_ow : OwnIs own)
    (hd : od.IsDictOf (PySem.intKind PySem.Challenge.rw_on0017_01.row.prog w) kvs) (hh : A.handled = none) (F : Fr h₀ env.locals s.heap m₀) (N : News h₀ env.locals s.heap news) (hs : Pick (fo, od) news fr₀) (hm : (ax, listOf vs.toArray k) ∈ fr₀) (hax : @Ne Nat ax fo) (hoff : Off fo fr₀)
    (turn : ∀ i v od' kvs' fr (u : Str → Option Value) h tk, vs[i]? = some v → Sub fr₀ fr → Off fo fr → od'.IsDictOf (PySem.intKind PySem.Challenge.rw_on0017_01.row.prog w) kvs' → (∀ y, y ∈ kvs'.map (·.1) ↔ y ∈ kvs.map (·.1) ∨ y ∈ accTo own i) → kvs'.length ≤ kvs.length + 1 → (i = 0 → kvs'.length ≤ kvs.length) →
      Fr h₀ env.locals h (fun y => if y = x then some v else if boTmp.contains y then u y else m₀ y) → News h₀ env.locals h ((fo, od') :: fr) →
      wpAny (model PySem.Challenge.rw_on0017_01.row.prog w) A (execs body env) (BoTurn w h₀ env.locals fo x m₀ (kvs.map (·.1)) kvs.length own ax i fr { s with heap := h, toks := tk } Q) E { s with heap := h, toks := tk })
    (done : ∀ od' kvs' fr (u : Str → Option Value) h tk, Grow fr₀ fr → Off fo fr → od'.IsDictOf (PySem.intKind PySem.Challenge.rw_on0017_01.row.prog w) kvs' → (∀ y, y ∈ kvs'.map (·.1) ↔ y ∈ kvs.map (·.1) ∨ y ∈ accTo own vs.length) → kvs'.length ≤ kvs.length + 1 → (vs.length = 0 → kvs'.length ≤ kvs.length) →
      Fr h₀ env.locals h (fun y => if y = x then u y else if boTmp.contains y then u y else m₀ y) → News h₀ env.locals h ((fo, od') :: fr) → Q .next { s with heap := h, toks := tk }) :
    wpAny (model PySem.Challenge.rw_on0017_01.row.prog w) A (pyIter (.ref ax)) (fun it s₂ => LoopAtV PySem.Challenge.rw_on0017_01.row.prog w A h₀ env x body Q E it s₂) E s := by
  refine loop_list (σ := FD) (fdMu fo) [fo] (fun _ => []) boTmp (fdInv w (kvs.map (·.1)) kvs.length own) ⟨od, kvs⟩ fr₀ (fun _ => rfl) (fun i c fr fr' st h => h) hh hm (by simpa using hax) F (fun p m => N p (hs.sub p m)) ?_ (fun p hp => nomatch hp) ⟨hd, by intro y; simp [accTo], by simp⟩ ?_ ?_
  · intro a ha
    rw [List.mem_singleton.mp ha]; exact hoff
  · rintro i v ⟨od', kvs'⟩ fr u h tk hi hv sb off ⟨h1, h2, h3⟩ F' N'
    exact turn i v od' kvs' fr u h tk (by simpa using hv) sb (off fo (.head _)) h1 h2 (by dsimp only at h3; split at h3 <;> omega) (by rintro rfl; simpa using h3) F' N'
  · rintro ⟨od', kvs'⟩ fr u h tk g off ⟨h1, h2, h3⟩ F' N'
    have h3' : kvs'.length ≤ kvs.length + (if vs.length = 0 then 0 else 1) := by simpa using h3
    exact done od' kvs' fr u h tk g (off fo (.head _)) h1 (by simpa using h2) (by split at h3' <;> omega) (by intro e; rw [if_pos e] at h3'; exact h3') F' N'
theorem bo_turn {w : World} {h₀ h : Heap} {L fo ax : Addr} {x : Str} {m₀ m' : Str → Option Value} {ks : List Int} {len : Nat} {own : List Int} {i : Nat} {fr fr' news : Led} {s₁ : Shared} {Q : Flow → Shared → Prop} {od : Obj} {kvs : List (Int × Value)} {tk : Nat}
    (hd : od.IsDictOf (PySem.intKind PySem.Challenge.rw_on0017_01.row.prog w) kvs) (F : Fr h₀ L h m') (N : News h₀ L h news) (hs : Pick (fo, od) news fr') (sb : Sub fr fr') (off : Off fo fr) (hk : ∀ y, y ∈ kvs.map (·.1) ↔ y ∈ ks ∨ y ∈ own) (hl : kvs.length ≤ len + 1)
    (hm : ∀ z, z ≠ x → boTmp.contains z = false → m' z = m₀ z) : BoTurn w h₀ L fo x m₀ ks len own ax i fr s₁ Q .next { s₁ with heap := h, toks := tk } := by
  refine ⟨h, tk, m', ⟨od, kvs⟩, clean fr fr', rfl, F, fun p m => N p (hs.sub p ?_), Grow.clean.X, ?_, (fun p hp => nomatch hp), fun z h1 _ h3 => hm z h1 h3, hd, ?_, ?_⟩
  · rcases List.mem_cons.mp m with rfl | m
    · exact .head _
    · exact .tail _ (sb.clean p m)
  · intro a ha
    rw [List.mem_singleton.mp ha]; exact off.clean
  · intro y; rw [hk y]; simp [accTo]
  · simpa using hl
section
variable {ks own : List Int} {kvs k1 k2 : List (Int × Value)} {k : Int} {v a b : Value} {i : Nat}
theorem no_item (h : ([] : List Value)[i]? = some v) : False := by simp at h
theorem one_item (h : [a][i]? = some v) : i = 0 ∧ v = a := by
  cases i with
  | zero => exact ⟨rfl, by simpa using h.symm⟩
  | succ i => simp at h
theorem two_items (h : [a, b][i]? = some v) : (i = 0 ∧ v = a) ∨ (i = 1 ∧ v = b) := by
  cases i with
  | zero => exact .inl ⟨rfl, by simpa using h.symm⟩
  | succ i =>
    cases i with
    | zero => exact .inr ⟨rfl, by simpa using h.symm⟩
    | succ i => simp at h
theorem bk0 (h : ∀ y, y ∈ kvs.map (·.1) ↔ y ∈ ks ∨ y ∈ accTo own 0) (e : own = []) (y : Int) : y ∈ kvs.map (·.1) ↔ y ∈ ks ∨ y ∈ own := by rw [h]; subst e; rfl
theorem bk1 (h : ∀ y, y ∈ kvs.map (·.1) ↔ y ∈ ks ∨ y ∈ accTo own 0) (e : own = [k]) (y : Int) : y ∈ (stored kvs k v).map (·.1) ↔ y ∈ ks ∨ y ∈ own := by rw [stored_keys, h]; subst e; simp [accTo]
theorem bk2 (h : ∀ y, y ∈ kvs.map (·.1) ↔ y ∈ ks ∨ y ∈ accTo own 1) (y : Int) : y ∈ kvs.map (·.1) ↔ y ∈ ks ∨ y ∈ own := h y
theorem bfin1 {n : Nat} (h1 : ∀ y, y ∈ k1.map (·.1) ↔ y ∈ kvs.map (·.1) ∨ y ∈ accTo own (n + 1)) (h2 : ∀ y, y ∈ k2.map (·.1) ↔ y ∈ k1.map (·.1) ∨ y ∈ accTo own 0) (y : Int) : y ∈ k2.map (·.1) ↔ y ∈ kvs.map (·.1) ∨ y ∈ own := by rw [h2, h1]; simp [accTo]
theorem bfin2 {n : Nat} (h1 : ∀ y, y ∈ k1.map (·.1) ↔ y ∈ kvs.map (·.1) ∨ y ∈ accTo own 0) (h2 : ∀ y, y ∈ k2.map (·.1) ↔ y ∈ k1.map (·.1) ∨ y ∈ accTo own (n + 1)) (y : Int) : y ∈ k2.map (·.1) ↔ y ∈ kvs.map (·.1) ∨ y ∈ own := by rw [h2, h1]; simp [accTo]
theorem bfin0 (h1 : ∀ y, y ∈ k1.map (·.1) ↔ y ∈ kvs.map (·.1) ∨ y ∈ accTo [] 0) (h2 : ∀ y, y ∈ k2.map (·.1) ↔ y ∈ k1.map (·.1) ∨ y ∈ accTo [] 0) (y : Int) : y ∈ k2.map (·.1) ↔ y ∈ kvs.map (·.1) ∨ y ∈ ([] : List Int) := by rw [h2, h1]; simp [accTo]
end

end
--PART A17BoWalk
section
local macro_rules | `(tactic| k_all) => `(tactic| assumption)
local macro_rules | `(tactic| k_mem) => `(tactic| k_extra "mine mem")
theorem Sub.by' {a b c : Led} (g : Sub b c) (h : Sub a b) : Sub a c := h.trans g
theorem tupAt_lenN (n : Int) {prog : Program} {w : World} {A : Around} {E : Value → Shared → Prop} {s : Shared} {Q : Value → Shared → Prop} {P : Params} {h₀ : Heap} {L : Addr} {m : Str → Option Value} {l news : Led} {a : Addr} {vs : List Value}
    (ht : TupAt l a vs) (hn : (vs.length : Int) = n) (X : (hd.heap_39 P).In h₀) (F : Fr h₀ L s.heap m) (N : News h₀ L s.heap news) (st : SubT l news) (hz : vs.length ≤ 1000) (h : Q (.int n (s.toks + 1)) { s with toks := s.toks + 1 + 1 }) : wpAny (model prog w) A (call (.builtin "len") [.ref a]) Q E s :=
  tupAt_len ht X F N st hz (by rw [hn]; exact h)
--#MACROS
theorem ln25 : True := by
  k_with "mine sub" => first | with_reducible assumption | exact Sub.refl | (refine' Sub.tl ?pkQz; (case pkQz => k_extra "mine sub")) | (refine' Sub.gr ?pgQz ?pkQz; (case pgQz => with_reducible assumption); (case pkQz => k_extra "mine sub")) | (refine' Sub.by' ?pgQz ?pkQz; (case pgQz => with_reducible assumption); (case pkQz => k_extra "mine sub")) | fail "mine"
  k_with "call builtin:len" => (k_here; (with_reducible show wpAny _ _ (call (Value.builtin "len") [Value.ref _]) _ _ _); k_dflt (first | (refine' tupAt_lenN 4 ?htQz ?hnQz ?XQz ?FQz ?NQz ?stQz ?zQz ?_; (case htQz => with_reducible assumption); (case hnQz => exact rfl); (case XQz => k_asm); (case FQz => k_asm); (case NQz => k_asm); (case stQz => k_extra "mine subt"); (case zQz => exact Nat.le_of_ble_eq_true rfl)) | (refine' tupAt_lenN 5 ?htQz ?hnQz ?XQz ?FQz ?NQz ?stQz ?zQz ?_; (case htQz => with_reducible assumption); (case hnQz => exact rfl); (case XQz => k_asm); (case FQz => k_asm); (case NQz => k_asm); (case stQz => k_extra "mine subt"); (case zQz => exact Nat.le_of_ble_eq_true rfl)) | (refine' tupAt_lenN 7 ?htQz ?hnQz ?XQz ?FQz ?NQz ?stQz ?zQz ?_; (case htQz => with_reducible assumption); (case hnQz => exact rfl); (case XQz => k_asm); (case FQz => k_asm); (case NQz => k_asm); (case stQz => k_extra "mine subt"); (case zQz => exact Nat.le_of_ble_eq_true rfl)) | fail "len"); (try dsimp only); (try k_fold))
  k_with "compareOp Eq str str" => (k_here; (with_reducible show wpAny _ _ (compareOp CmpOp.Eq (Value.str _ _) (Value.str _ _)) _ _ _); k_dflt ((first | with_reducible refine' str_plain ?hpQz ?hnQz ?_ | refine' str_plain ?hpQz ?hnQz ?_); (case hpQz => with_reducible assumption); (case hnQz => decide +kernel)); (try k_fold))
  k_with "call ref" => (k_here; (with_reducible show wpAny _ _ (call (Value.ref 42) [_]) _ _ _); k_dflt ((first | with_reducible refine' ispart_use ?k1Qz ?k2Qz ?k3Qz ?k4Qz ?k5Qz ?a3Qz ?hfQz ?hkQz ?a1Qz ?a2Qz ?a4Qz ?hPQz ?sbQz ?_ ?_ | refine' ispart_use ?k1Qz ?k2Qz ?k3Qz ?k4Qz ?k5Qz ?a3Qz ?hfQz ?hkQz ?a1Qz ?a2Qz ?a4Qz ?hPQz ?sbQz ?_ ?_); (case hPQz => with_reducible assumption); (case k2Qz => k_asm); (case k1Qz => k_asm); (case k3Qz => k_asm); (case k4Qz => k_asm); (case k5Qz => k_asm); (case a3Qz => exact rfl); (case hfQz => first | exact rfl | assumption); (case hkQz => first | exact rfl | assumption); (case a1Qz => exact rfl); (case a2Qz => k_extra "mine room"); (case a4Qz => k_extra "mine room"); (case sbQz => k_extra "mine sub")); all_goals (intro h'e112 tk'e112 hb'e112 F'e112 N'e112; (try dsimp only); (try k_sweep); (try k_fold)))
  k_with "setItem ref int" => (k_here; (rename Obj.IsDictOf _ _ _ => hd9e113); k_dflt ((first | with_reducible refine' found_set hd9e113 ?hlQz ?FQz ?NQz ?hsQz ?offQz ?_ | refine' found_set hd9e113 ?hlQz ?FQz ?NQz ?hsQz ?offQz ?_); (case hlQz => first | omega | (refine Nat.le_trans stored_len ?_; omega)); (case FQz => k_asm); (case NQz => k_asm); (case hsQz => k_extra "mine pick"); (case offQz => k_extra "mine off")); intro h'e113 od'e113 hd'e113 F'e113 N'e113; (try dsimp only); (try k_sweep); (try k_fold))
  exact True.intro
--#END
section
theorem ln26 : True := by
  k_with "pyIter ref" => (k_here; (with_reducible show wpAny _ _ (pyIter (Value.ref _)) (fun it s₂ => LoopAtV _ _ _ _ _ _ _ _ _ it s₂) _ _); (rename Obj.IsDictOf _ _ _ => hd9e114); (with_reducible rename OwnIs _ => ow9e114); k_dflt ((first | with_reducible refine' bo_loop ow9e114 hd9e114 ?hhQz ?FQz ?NQz ?hsQz ?hmQz ?haxQz ?offQz ?_ ?_ | refine' bo_loop ow9e114 hd9e114 ?hhQz ?FQz ?NQz ?hsQz ?hmQz ?haxQz ?offQz ?_ ?_); (case hhQz => rfl); (case FQz => k_asm); (case NQz => k_asm); (case hsQz => k_extra "mine pick"); (case hmQz => k_extra "mine mem"); (case haxQz => first | k_extra "mine new" | (refine neN ?_; (try dsimp only); omega)); (case offQz => k_extra "mine off")); rotate_left; (intro od'e114 kvs'e114 fr'e114 u'e114 h'e114 tk'e114 hg'e114 hoff'e114 hd'e114 hky'e114 hln'e114 hlz'e114 F'e114 N'e114; (try (have hz9e114 := hlz'e114 rfl; clear hlz'e114)); (try dsimp only); (try k_sweep)); rotate_left; (intro i'e114 v'e114 od'e114 kvs'e114 fr'e114 u'e114 h'e114 tk'e114 hv'e114 hsb'e114 hoff'e114 hd'e114 hky'e114 hln'e114 hlz'e114 F'e114 N'e114; (first | exact absurd hv'e114 no_item | (obtain ⟨hi9e114, hv9e114⟩ := one_item hv'e114; subst hi9e114 hv9e114) | (rcases two_items hv'e114 with ⟨hi9e114, hv9e114⟩ | ⟨hi9e114, hv9e114⟩ <;> subst hi9e114 hv9e114)); all_goals ((try dsimp only); (try k_sweep); (try k_fold))))
  k_with "BoTurn" => (k_here; (rename Obj.IsDictOf _ _ _ => hd9e115); k_dflt ((first | with_reducible refine' bo_turn hd9e115 ?FQz ?NQz ?hsQz ?sbQz ?offQz ?hkQz ?hlQz ?hmQz | refine' bo_turn hd9e115 ?FQz ?NQz ?hsQz ?sbQz ?offQz ?hkQz ?hlQz ?hmQz); (case FQz => k_asm); (case NQz => k_asm); (case hsQz => k_extra "mine pick"); (case sbQz => k_extra "mine sub"); (case offQz => with_reducible assumption); (case hkQz => first | exact bk1 (by with_reducible assumption) rfl | exact bk1 (by with_reducible assumption) (own_p (by with_reducible assumption)) | exact bk1 (by with_reducible assumption) (own_arr1 (by with_reducible assumption)) | exact bk2 (by with_reducible assumption) | exact bk0 (by with_reducible assumption) rfl | exact bk0 (by with_reducible assumption) (own_w (by with_reducible assumption)) | exact bk0 (by with_reducible assumption) own_n | exact bk0 (by with_reducible assumption) (own_no (by with_reducible assumption)) | exact bk0 (by with_reducible assumption) (own_arr0 (by with_reducible assumption)) | fail "keys"); (case hlQz => first | omega | (refine Nat.le_trans stored_len ?_; omega) | fail "len"); (case hmQz => (intro ze115 h1e115 h3e115; have h6e115 := h3e115; (simp only [boTmp, List.contains_cons, List.contains_nil, Bool.or_false, beq_eq_false_iff_ne, ne_eq] at h3e115); (simp only [h1e115, h3e115, h6e115, Bool.false_eq_true, ↓reduceIte]; done)))))
  k_with "subscriptTail" => (k_here; (with_reducible show wpAny _ _ (subscriptTail _ _ (Value.ref _) (Value.int 1 _)) _ _ _); k_dflt ((first | with_reducible refine' place_ty ?k1Qz ?hPQz ?stQz ?_ ?k7Qz | refine' place_ty ?k1Qz ?hPQz ?stQz ?_ ?k7Qz); (case hPQz => with_reducible assumption); (case k1Qz => k_asm); (case stQz => k_extra "mine subt"); (case k7Qz => with_unfolding_all rfl)); intro tv'e63 hT'e63; (try dsimp only); (try k_fold))
  k_with "subscriptTail Name Constant ref int" => (k_here; (with_reducible show wpAny _ _ (subscriptTail _ _ (Value.ref _) (Value.int 1 _)) _ _ _); k_dflt ((first | with_reducible refine' place_ty ?k1Qz ?hPQz ?stQz ?_ ?k7Qz | refine' place_ty ?k1Qz ?hPQz ?stQz ?_ ?k7Qz); (case hPQz => with_reducible assumption); (case k1Qz => k_asm); (case stQz => k_extra "mine subt"); (case k7Qz => with_unfolding_all rfl)); intro tv'e64 hT'e64; (try dsimp only); (try k_fold))
  exact True.intro
set_option maxRecDepth 100000 in
set_option maxHeartbeats 8000000 in
theorem boxed_con (w : World) : Con w 61 450 5600 (boPre w) (boPost w) := by
  unfold Con
  k_fill
  rintro ⟨fr, a, W, fo, od, kvs, x, t, vs, own⟩ mean mg mb env outer gd A₀ base h₀ L m news s vs' Q E B F X N T hf hk ⟨rfl, rfl, hat, hO, hW, hoff, hd, hl⟩ hret
  try dsimp only at *
  have hown : OwnIs own := trivial
  cases hO
  all_goals (try (rename PlaceIn _ _ _ _ _ _ => hP9; have hq9 := hP9.isRef; obtain ⟨p9, e9⟩ := hq9; subst e9))
  all_goals (k_extra "mine enter")
  all_goals k_steps
  all_goals (rename Obj.IsDictOf _ _ _ => hd9; refine' bo_end hret hd9 ?F ?N ?hs ?sb ?hk ?hl; (case F => k_asm); (case N => k_asm); (case hs => k_extra "mine pick"); (case sb => k_extra "mine sub"); (case hk => first | exact bfin0 (by assumption) (by assumption) | exact bfin1 (by assumption) (by assumption) | exact bfin2 (by assumption) (by assumption) | fail "fin"); (case hl => first | omega | ((try dsimp only at *); omega) | fail "len"))
end

end
--PART A18Ops
section
section
variable {prog : Program} {w : World} {A : Around} {E : Value → Shared → Prop} {s : Shared} {h₀ : Heap} {L : Addr} {m : Str → Option Value} {news fr : Led} {Q : Value → Shared → Prop}
theorem list_ne_nil {D B : Addr} {st : List Value} {n k : Nat} (N : News h₀ L s.heap news) (hD : (D, listOf st.toArray n) ∈ news) (hB : (B, listOf #[] k) ∈ news) (hu : A.units < cLine)
    (h0 : st = [] → Q (.bool false) s) (h1 : st ≠ [] → Q (.bool true) s) : wpAny (model prog w) A (compareOp .NotEq (.ref D) (.ref B)) Q E s := by
  have hTD : s.TypeIs (.ref D) "list" := ⟨_, (N _ hD).1, rfl⟩
  have hTB : s.TypeIs (.ref B) "list" := ⟨_, (N _ hB).1, rfl⟩
  cases st with
  | nil =>
    refine cmp_ofNotEq (richCompare_meets_room hTD hTB PySem.F.slot_list_ne PySem.F.entry_list_ne (PySem.F.args_list_ne_2 _ _) (PySem.SeqAt.list_neAt D B #[] #[] n k none none #[] #[] rfl (fun _ => true)) ⟨(N _ hD).1, (N _ hB).1, fun j hj => absurd hj (Nat.not_lt_zero _), ?_⟩ hu)
    exact ⟨fun e => (nomatch e), h0 rfl⟩
  | cons v r =>
    refine cmp_ofNotEq (richCompare_meets_room hTD hTB PySem.F.slot_list_ne PySem.F.entry_list_ne (PySem.F.args_list_ne_2 _ _) (PySem.SeqAt.list_ne_lengthsAt D B (v :: r).toArray #[] n k none none #[] #[] (by simp)) ⟨(N _ hD).1, (N _ hB).1, ?_⟩ hu)
    exact ⟨fun e => (nomatch e), h1 (fun e => nomatch e)⟩
theorem tuple_eq_nil {P : Params} {l : Led} {a B : Addr} {vs : List Value} (ht : TupAt l a vs) (X : (hd.heap_39 P).In h₀) (F : Fr h₀ L s.heap m) (N : News h₀ L s.heap news) (st : SubT l news) (hB : (B, tupO []) ∈ news) (hu : A.units < cLine)
    (h0 : vs = [] → Q (.bool true) s) (h1 : vs ≠ [] → Q (.bool false) s) : wpAny (model prog w) A (compareOp .Eq (.ref a) (.ref B)) Q E s := by
  have ha := ht.get (X.keeps F.keep) N st
  have hTD : s.TypeIs (.ref a) "tuple" := ⟨_, ha, rfl⟩
  have hTB : s.TypeIs (.ref B) "tuple" := ⟨_, (N _ hB).1, rfl⟩
  refine cmp_ofEq (richCompare_meets_room hTD hTB PySem.F.slot_tuple_eq PySem.F.entry_tuple_eq (PySem.F.args_tuple_eq_2 _ _) (PySem.SeqAt.tuple_eqAt a B vs.toArray [].toArray 0 0 none none #[] #[] (fun _ => true)) ⟨ha, (N _ hB).1, fun j _ hj => absurd hj (Nat.not_lt_zero _), ?_⟩ hu)
  cases vs with
  | nil => exact ⟨fun e => (nomatch e), h0 rfl⟩
  | cons v r => exact ⟨fun e => (nomatch e), by simpa using h1 (fun e => nomatch e)⟩
theorem isi_tup {P : Params} {l : Led} {a : Addr} {vs : List Value} (ht : TupAt l a vs) (X : (hd.heap_39 P).In h₀) (F : Fr h₀ L s.heap m) (N : News h₀ L s.heap news) (st : SubT l news) (h : Q (.bool true) s) : wpAny (model prog w) A (call (.builtin "isinstance") [.ref a, .type "tuple"]) Q E s :=
  PySem.IsiPair.tuple_tuple (ht.get (X.keeps F.keep) N st) rfl h
theorem isi_tup_str {P : Params} {l : Led} {a : Addr} {vs : List Value} (ht : TupAt l a vs) (X : (hd.heap_39 P).In h₀) (F : Fr h₀ L s.heap m) (N : News h₀ L s.heap news) (st : SubT l news) (h : Q (.bool false) { s with toks := s.toks + 1 }) : wpAny (model prog w) A (call (.builtin "isinstance") [.ref a, .type "str"]) Q E s :=
  PySem.IsiPair.tuple_str (ht.get (X.keeps F.keep) N st) rfl h
theorem isi_plain {v : Value} (hv : plainV v = true) (h : Q (.bool false) { s with toks := s.toks + 1 }) : wpAny (model prog w) A (call (.builtin "isinstance") [v, .type "tuple"]) Q E s := by
  cases v <;> first | cases hv | skip
  · exact PySem.IsiPair.NoneType_tuple h
  · exact PySem.IsiPair.bool_tuple h
  · exact PySem.IsiPair.int_tuple h
  · exact PySem.IsiPair.str_tuple h
theorem isi_plain_str {v : Value} (hv : plainV v = true) (hs : isStrV v = false) (h : Q (.bool false) { s with toks := s.toks + 1 }) : wpAny (model prog w) A (call (.builtin "isinstance") [v, .type "str"]) Q E s := by
  cases v <;> first | cases hv | skip
  · exact PySem.IsiPair.NoneType_str h
  · exact PySem.IsiPair.bool_str h
  · exact PySem.IsiPair.int_str h
  · exact absurd hs (by simp [isStrV])
theorem left_pop {D : Addr} {st : List Value} {v : Value} {n : Nat} (F : Fr h₀ L s.heap m) (N : News h₀ L s.heap news) (hs : Pick (D, listOf (st ++ [v]).toArray n) news fr) (hoff : Off D fr) (hz : st.length ≤ 100000)
    (h : ∀ h', Fr h₀ L h' m → News h₀ L h' ((D, listOf st.toArray (n + 1)) :: fr) → Q v { s with heap := h' }) : wpAny (model prog w) A (call (.builtin "list.pop") [.ref D]) Q E s := by
  have N1 : News h₀ L s.heap ((D, listOf (st ++ [v]).toArray n) :: fr) := fun p m => N p (hs.sub p m)
  have hne := hoff.ok N1 (fun e => absurd (Value.type.inj e) (by decide))
  have z := N1 _ (.head _)
  have hz' : (st ++ [v]).toArray.size ≤ sizeLine := by rw [List.size_toArray, List.length_append, sizeLine_eq]; simp; omega
  have hk : (st ++ [v]).toArray.size - 1 = st.length := by rw [List.size_toArray, List.length_append]; rfl
  have hy : (st ++ [v]).toArray[(st ++ [v]).toArray.size - 1]? = some v := by rw [hk]; simp
  refine call_meets PySem.F.slot_list_pop ⟨_, z.1, rfl⟩ PySem.F.entry_list_pop (PySem.F.args_list_pop_1 _) (PySem.MeetsSeq.list_pop_last D _ n v hy hz') ⟨z.1, h _ (F.change (Heap.SameBut.update ..) z.2.1 z.2.2) (kl_turn (pre := []) _ N1 (fun p hp => nomatch hp) hne ?_ ?_)⟩
  · show (st ++ [v]).toArray.eraseIdxIfInBounds ((st ++ [v]).toArray.size - 1) = st.toArray
    rw [hk, kl_erase, List.append_nil]
  · rw [List.size_toArray, List.size_toArray, List.length_append]
    simp
theorem left_extend {D B : Addr} {st ys : List Value} {n k : Nat} (F : Fr h₀ L s.heap m) (N : News h₀ L s.heap news) (hs : Pick (D, listOf st.toArray n) news fr) (hB : (B, listOf ys.toArray k) ∈ fr) (hoff : Off D fr) (hz : st.length ≤ 100000) (hz2 : ys.length ≤ 100000)
    (h : ∀ h' n', Fr h₀ L h' m → News h₀ L h' ((D, listOf (st ++ ys).toArray n') :: fr) → Q .none { s with heap := h' }) : wpAny (model prog w) A (call (.builtin "list.extend") [.ref D, .ref B]) Q E s := by
  have N1 : News h₀ L s.heap ((D, listOf st.toArray n) :: fr) := fun p m => N p (hs.sub p m)
  have hne := hoff.ok N1 (fun e => absurd (Value.type.inj e) (by decide))
  exact extend_in (own := []) F N1 (fun p hp => nomatch hp) hne (N1 _ (.tail _ hB)).1 (fun h' n' F' N' => h h' n' F' N') (by rw [List.size_toArray, sizeLine_eq]; omega)
theorem in_heads {x : Str} {t : Tok} {T : Addr} {ws : List Value} {xs hs : List Str} (hx : x ∈ hs) (N : News h₀ L s.heap news) (hm : (T, tupO ws) ∈ news) (hi : StrsAre ws xs) (hn : xs.all (fun y => !hs.contains y) = true) (h : Q (.bool false) s) :
    wpAny (model prog w) A (compareOp .In (.str x t) (.ref T)) Q E s := by
  have e : xs.any (fun y => y == x) = false := by
    rw [List.any_eq_false]
    intro y hy he
    have e' : y = x := eq_of_beq he
    subst e'
    have := List.all_eq_true.mp hn y hy
    rw [List.contains_iff_mem.mpr hx] at this
    cases this
  exact in_tuple_strs (N.isTup hm) hi (by first | (rw [e]; exact h) | simpa [e] using h)
end
noncomputable def nodeHeads : List Str := plainHeads ++ [Str.ofString "address", Str.ofString "cut", Str.ofString "set", Str.ofString "update"]
theorem Own.head {l : Led} {x : Str} {vs : List Value} {own : List Int} (h : Own l x vs own) : x ∈ nodeHeads := by
  cases h with
  | plain h => exact List.mem_append.mpr (.inl h)
  | address h => exact List.mem_append.mpr (.inr (.head _))
  | cut h => exact List.mem_append.mpr (.inr (.tail _ (.head _)))
  | set1 m h => exact List.mem_append.mpr (.inr (.tail _ (.tail _ (.head _))))
  | set2 m h => exact List.mem_append.mpr (.inr (.tail _ (.tail _ (.head _))))
  | update h => exact List.mem_append.mpr (.inr (.tail _ (.tail _ (.tail _ (.head _)))))
/-- what the walk keeps of a tuple's parts -/
noncomputable def isRefV : Value → Bool
  | .ref _ => true
  | _ => false
theorem Walk.cases2 {l : Led} {v : Value} {xs : List Int} {n : Nat} (h : Walk l v xs n) : (plainV v = true ∧ xs = [] ∧ n = 0) ∨ ∃ a ws, v = .ref a ∧ TupAt l a ws ∧ 1 ≤ n := by
  cases h with
  | flat h => exact .inl ⟨h, rfl, rfl⟩
  | empty h => exact .inr ⟨_, _, rfl, h, Nat.le_refl _⟩
  | type h k => exact .inr ⟨_, _, rfl, h, Nat.le_refl _⟩
  | seq h k r => exact .inr ⟨_, _, rfl, h, Nat.succ_le_succ (Nat.zero_le _)⟩
  | node h k r => exact .inr ⟨_, _, rfl, h, Nat.succ_le_succ (Nat.zero_le _)⟩
theorem WalkAll.refs {l : Led} : ∀ {vs : List Value} {xs : List Int} {n : Nat}, WalkAll l vs xs n → WalkAll l (vs.filter isRefV) xs n
  | _, _, _, .nil => .nil
  | v :: vs, _, _, .cons (xs := xs) (ys := ys) (n := n) (k := k) h r => by
    rcases h.cases2 with ⟨hp, rfl, rfl⟩ | ⟨a, ws, rfl, _, _⟩
    · have e : isRefV v = false := by cases v <;> first | rfl | cases hp
      rw [List.filter_cons, if_neg (by rw [e]; exact Bool.false_ne_true), List.nil_append, Nat.zero_add]
      exact r.refs
    · rw [List.filter_cons, if_pos (show isRefV (Value.ref a) = true from rfl)]
      exact .cons h r.refs
theorem WalkAll.app {l : Led} : ∀ {vs ws : List Value} {xs ys : List Int} {n k : Nat}, WalkAll l vs xs n → WalkAll l ws ys k → WalkAll l (vs ++ ws) (xs ++ ys) (n + k)
  | _, _, _, _, _, _, .nil, h => by simpa using h
  | _, _, _, _, _, _, .cons a r, h => by
    rw [List.cons_append, List.append_assoc, Nat.add_assoc]
    exact .cons a (r.app h)
theorem WalkAll.last {l : Led} {v : Value} : ∀ {vs : List Value} {xs : List Int} {n : Nat}, WalkAll l (vs ++ [v]) xs n → ∃ ys zs k j, WalkAll l vs ys k ∧ Walk l v zs j ∧ xs = ys ++ zs ∧ n = k + j
  | [], _, _, h => by
    cases h with
    | cons a r => cases r; exact ⟨[], _, 0, _, .nil, a, by simp, by simp⟩
  | w :: vs, _, _, h => by
    cases h with
    | cons a r =>
      obtain ⟨ys, zs, k, j, h1, h2, rfl, rfl⟩ := r.last
      exact ⟨_, zs, _, j, .cons a h1, h2, by rw [List.append_assoc], by rw [Nat.add_assoc]⟩
theorem WalkAll.len {l : Led} : ∀ {vs : List Value} {xs : List Int} {n : Nat}, WalkAll l vs xs n → allRefs vs → vs.length ≤ n
  | _, _, _, .nil, _ => Nat.le_refl _
  | v :: vs, _, _, .cons a r, h => by
    have h1 := r.len fun y hy => h y (.tail _ hy)
    rcases a.cases2 with ⟨hp, _, _⟩ | ⟨_, _, _, _, hn⟩
    · obtain ⟨b, rfl⟩ := h v (.head _); cases hp
    · rw [List.length_cons]; omega
theorem refs_all (vs : List Value) : allRefs (vs.filter isRefV) := fun y hy => by
  obtain ⟨_, h⟩ := List.mem_filter.mp hy
  cases y <;> first | exact ⟨_, rfl⟩ | cases h
/-- is_type -/
noncomputable def itPre (g : Led × Addr × List Value × Bool) (news : Led) (vs : List Value) : Prop := news = g.1 ∧ vs = [.ref g.2.1] ∧ TupAt g.1 g.2.1 g.2.2.1 ∧ ((g.2.2.2 = true ∧ TypeLike g.2.2.1) ∨ (g.2.2.2 = false ∧ ∃ x t ws, g.2.2.1 = .str x t :: ws ∧ x ∈ nodeHeads))
noncomputable def itPost (g : Led × Addr × List Value × Bool) (news : Led) (v : Value) : Prop := news = g.1 ∧ v = .bool g.2.2.2

end
theorem ln27 : True := by
  k_with_none
  k_with "eval Name" => (k_here; (with_reducible show wpAny _ _ (eval (PySem.Expr.Name _ _) (envOf _ _ _ _ _)) _ _ _); name_kind "globalImplicit"; k_dflt ((with_reducible refine' name_K ?k0Qz ?k1Qz ?k2Qz ?k3Qz ?_ ?aQz ?bQz ?cQz); (case k0Qz => with_reducible assumption); (case k1Qz => with_reducible assumption); (case k2Qz => k_asm); (case k3Qz => k_is); (case aQz => exact rfl); (case bQz => kernel_rfl!); (case cQz => decide +kernel); k_whole))
  k_with "eval Name" => (k_here; (with_reducible show wpAny _ _ (eval (PySem.Expr.Name _ _) (envOf _ _ _ _ _)) _ _ _); name_kind "globalImplicit"; name_is_builtin; k_dflt ((with_reducible refine' name_B ?k0Qz ?k1Qz ?k2Qz ?k3Qz ?k4Qz ?k5Qz ?_ ?aQz ?bQz ?cQz); (case k0Qz => with_reducible assumption); (case k1Qz => with_reducible assumption); (case k2Qz => k_asm); (case k3Qz => k_is); (case k4Qz => boot_fast); (case k5Qz => decide +kernel); (case aQz => exact rfl); (case bQz => kernel_rfl!); (case cQz => decide +kernel); k_whole))
  k_with "eval Name" => (k_here; (with_reducible show wpAny _ _ (eval (PySem.Expr.Name _ _) (envOf _ _ _ _ _)) _ _ _); name_kind "local"; k_dflt ((with_reducible refine' ld ?k1Qz ?k2Qz ?_ ?aQz ?bQz ?cQz); (case k1Qz => with_reducible assumption); (case aQz => exact rfl); (case bQz => kernel_rfl!); (case cQz => decide +kernel); (case k2Qz => exact rfl); k_whole))
  k_with "eval Name" => (k_here; (with_reducible show wpAny _ _ (eval (PySem.Expr.Name _ _) (envOfC _ _ _ _ _)) _ _ _); k_dflt first | (name_kind "local"; (with_reducible refine' nameC_L ?FQz ?vQz ?_ ?aQz ?bQz ?cQz); (case FQz => with_reducible assumption); (case aQz => exact rfl); (case bQz => kernel_rfl!); (case cQz => decide +kernel); (case vQz => first | exact rfl | assumption); k_whole) | (name_kind "cell"; (with_reducible refine' nameC_C ?NQz ?kQz ?mQz ?dQz ?_ ?aQz ?bQz ?cQz); (case aQz => exact rfl); (case bQz => kernel_rfl!); (case cQz => decide +kernel); (case NQz => with_reducible assumption); (case kQz => exact rfl); (case mQz => k_mem); (case dQz => k_asm); k_whole) | (name_kind "globalImplicit"; name_is_builtin; (with_reducible refine' nameC_B ?FQz ?XQz ?TQz ?eQz ?vQz ?nQz ?_ ?aQz ?bQz ?cQz); (case FQz => with_reducible assumption); (case XQz => with_reducible assumption); (case TQz => k_asm); (case aQz => exact rfl); (case bQz => kernel_rfl!); (case cQz => decide +kernel); (case eQz => k_is); (case vQz => boot_fast); (case nQz => decide +kernel); k_whole) | (name_kind "globalImplicit"; (with_reducible refine' nameC_K ?FQz ?XQz ?TQz ?eQz ?_ ?aQz ?bQz ?cQz); (case FQz => with_reducible assumption); (case XQz => with_reducible assumption); (case TQz => k_asm); (case aQz => exact rfl); (case bQz => kernel_rfl!); (case cQz => decide +kernel); (case eQz => k_is); k_whole))
  k_with "eval Name" => (k_here; (with_reducible show wpAny _ _ (eval (PySem.Expr.Name _ _) (compEnvC _ _ _ _)) _ _ _); k_dflt first | (name_kind "local"; (with_reducible refine' LCgL.ld_own ?NQz ?mQz ?CQz ?xQz ?_ ?aQz ?bQz ?cQz); (case NQz => with_reducible assumption); (case mQz => k_mem); (case CQz => with_reducible assumption); (case xQz => assumption); (case aQz => exact rfl); (case bQz => kernel_rfl!); (case cQz => decide +kernel); k_whole) | (name_kind "globalImplicit"; name_is_builtin; (with_reducible refine' LCgL.ld_built ?FQz ?XQz ?TQz ?eQz ?vQz ?nQz ?_ ?gQz ?hQz ?aQz ?bQz ?cQz); (case FQz => with_reducible assumption); (case XQz => with_reducible assumption); (case TQz => with_reducible assumption); (case gQz => exact rfl); (case hQz => exact rfl); (case aQz => exact rfl); (case bQz => kernel_rfl!); (case cQz => decide +kernel); (case eQz => k_is); (case vQz => boot_fast); (case nQz => decide +kernel); k_whole) | (name_kind "globalImplicit"; (with_reducible refine' LCgL.ld_global ?FQz ?XQz ?TQz ?eQz ?_ ?gQz ?aQz ?bQz ?cQz); (case FQz => with_reducible assumption); (case XQz => with_reducible assumption); (case TQz => with_reducible assumption); (case gQz => exact rfl); (case aQz => exact rfl); (case bQz => kernel_rfl!); (case cQz => decide +kernel); (case eQz => k_is); k_whole) | (name_kind "free"; (with_reducible refine' lcf_free ?NQz ?kQz ?mQz ?dQz ?_ ?aQz ?bQz ?cQz ?eQz); (case aQz => exact rfl); (case bQz => kernel_rfl!); (case cQz => decide +kernel); (case eQz => decide +kernel); (case NQz => with_reducible assumption); (case kQz => exact rfl); (case mQz => k_mem); (case dQz => k_asm); k_whole))
  k_with "newTuple" => (k_here; k_dflt ((with_reducible refine' kup_newTuple ?FQz ?NQz ?_ ?zQz); (case FQz => with_reducible assumption); (case NQz => with_reducible assumption); (case zQz => first | exact Nat.le_of_ble_eq_true rfl | kmk_size)); intro D'e5 h'e5 F'e5 N'e5 l1e5; (try k_sweep))
  k_with "newList" => (k_here; k_dflt ((with_reducible refine' newList_K ?FQz ?NQz ?_ ?zQz); (case FQz => with_reducible assumption); (case NQz => with_reducible assumption); (case zQz => first | exact Nat.le_of_ble_eq_true rfl | size_fits)); intro D'e6 h'e6 F'e6 N'e6 l1e6; (try k_sweep))
  k_with "And" => ((with_reducible show Frag.In _ _ ∧ _); refine' And.intro ?kQz ?_; (case kQz => k_dflt (first | with_reducible assumption | (refine' Frag.In.keeps ?xQz (Fr.keep ?fQz); (case fQz => with_reducible assumption); (case xQz => with_reducible assumption)) | k_in)); (try dsimp only [List.nil_append, List.cons_append]))
  k_with "execs cons" => (k_here; (try k_gentoks); (with_reducible refine' wpAny_execs_cons ?_); (try dsimp only); (try k_fold))
  k_with "ite" => (k_closed; first | (with_reducible refine' ite_tt ?_) | (with_reducible refine' ite_ff ?_) | ((with_reducible refine' ite_neg ?hQz ?_); (case hQz => decide +kernel)) | ((with_reducible refine' ite_pos ?hQz ?_); (case hQz => decide +kernel)))
  k_with "spliced" => k_dflt ((first | (with_reducible refine' args_cons (env := envOf _ _ _ _ _) ?_ ?heQz) | (with_reducible refine' args_cons (env := envOfC _ _ _ _ _) ?_ ?heQz)); (case heQz => exact rfl))
  k_with "eval Call" => k_dflt ((first | (with_reducible refine' Call_ (env := envOf _ _ _ _ _) ?_ ?heQz) | (with_reducible refine' Call_ (env := envOfC _ _ _ _ _) ?_ ?heQz)); (case heQz => exact rfl))
  k_with "exec Assign" => k_dflt ((first | (with_reducible refine' wpAny_Assign_Name (env := envOf _ _ _ _ _) ?_ ?heQz) | (with_reducible refine' wpAny_Assign_Name (env := envOfC _ _ _ _ _) ?_ ?heQz)); (case heQz => exact rfl); (try k_fold))
  k_with "callWith ref" => (k_here; k_dflt first | ((with_reducible refine' callWith_K ?k1Qz ?k2Qz ?_ ?heQz ?hpQz); (case k1Qz => with_reducible assumption); (case k2Qz => k_is); (case heQz => exact rfl); (case hpQz => exact rfl); k_whole) | ((with_reducible refine' callWith_K0 ?k1Qz ?k2Qz ?_); (case k1Qz => (first | with_reducible assumption | (refine' Frag.In.keeps ?xQz (Fr.keep ?fQz); (case fQz => with_reducible assumption); (case xQz => with_reducible assumption)) | k_in)); (case k2Qz => k_is); k_whole))
  k_with "storeName" => (k_here; k_dflt first | ((with_reducible refine' stN ?FQz ?NQz ?_ ?aQz ?bQz); (case FQz => with_reducible assumption); (case NQz => with_reducible assumption); (case aQz => exact rfl); (case bQz => kernel_rfl!); k_whole; intro h'e14 F'e14 N'e14; (try k_sweep)) | (name_kind "local"; (with_reducible refine' storeC_L ?FQz ?NQz ?_ ?aQz ?bQz); (case FQz => with_reducible assumption); (case NQz => with_reducible assumption); (case aQz => exact rfl); (case bQz => kernel_rfl!); k_whole; intro h'e14 F'e14 N'e14; (try k_sweep)))
  k_with "mine room" => first | exact Nat.le_of_ble_eq_true rfl | ((try simp only [recursionLimit]); (try dsimp only [Around.deeper, Around.in1, Around.mark, rnd]); first | exact room_le (by with_reducible assumption) rfl | omega) | fail "mine"
  k_with "mine enter" => (refine wpAny_call ?_; k_dflt ((with_reducible refine' code_def ?k1Qz ?k2Qz ?k3Qz ?k4Qz ?k5Qz ?kAQz ?kFQz ?kKQz ?k6Qz ?k7Qz ?k8Qz ?k9Qz ?kBQz ?_ ?c2Qz ?c3Qz ?c4Qz ?c5Qz); (case kAQz => exact rfl); (case kFQz => assumption); (case kKQz => assumption); (case k1Qz => k_asm); (case k2Qz => k_asm); (case k3Qz => k_asm); (case k4Qz => k_asm); (case k5Qz => k_asm); (case k6Qz => k_is); (case k7Qz => k_is); (case k8Qz => ktr_room); (case k9Qz => exact BindsTo.of_eq rfl); (case c5Qz => decide); (case kBQz => exact locs rfl); (case c2Qz => exact rfl); (case c3Qz => exact rfl); (case c4Qz => exact rfl); k_whole; intro g'e16 L'e16 h'e16 FG'e16 F'e16 N'e16 B'e16 X'e16 T'e16; (try dsimp only); (try k_fold)))
  k_with "mine pick" => first | exact Pick.head | (refine' Pick.tail ?pkQz; (case pkQz => k_extra "mine pick")) | fail "mine"
  k_with "mine mem" => first | with_reducible assumption | exact mem_hd | (refine' mem_tl ?pmQz; (case pmQz => k_extra "mine mem")) | (refine' Sub.mem ?pgQz ?pmQz; (case pgQz => with_reducible assumption); (case pmQz => k_extra "mine mem")) | (refine' Grow.mem ?pgQz ?pmQz; (case pgQz => with_reducible assumption); (case pmQz => k_extra "mine mem")) | fail "mine"
  k_with "mine at" => first | (with_reducible exact at_hd) | ((with_reducible refine' at_tl ?pmQz); (case pmQz => k_extra "mine at")) | fail "mine"
  k_with "mine pj" => first | with_reducible assumption | exact pj_l (by with_reducible assumption) | exact pj_l (pj_r (by with_reducible assumption)) | exact pj_r (by with_reducible assumption) | exact pj_l (pj_2 (by with_reducible assumption)) | exact pj_2 (by with_reducible assumption) | exact pj_l (pj_2 (pj_r (by with_reducible assumption))) | exact pj_2 (pj_r (by with_reducible assumption)) | exact pj_l (pj_4 (by with_reducible assumption)) | exact pj_4 (by with_reducible assumption) | exact pj_l (pj_4 (pj_r (by with_reducible assumption))) | exact pj_4 (pj_r (by with_reducible assumption)) | exact pj_l (pj_4 (pj_2 (by with_reducible assumption))) | exact pj_4 (pj_2 (by with_reducible assumption)) | exact pj_l (pj_4 (pj_2 (pj_r (by with_reducible assumption)))) | exact pj_4 (pj_2 (pj_r (by with_reducible assumption))) | exact pj_l (pj_8 (by with_reducible assumption)) | exact pj_8 (by with_reducible assumption) | exact pj_l (pj_8 (pj_r (by with_reducible assumption))) | exact pj_8 (pj_r (by with_reducible assumption)) | exact pj_l (pj_8 (pj_2 (by with_reducible assumption))) | exact pj_8 (pj_2 (by with_reducible assumption)) | exact pj_l (pj_8 (pj_2 (pj_r (by with_reducible assumption)))) | exact pj_8 (pj_2 (pj_r (by with_reducible assumption))) | exact pj_l (pj_8 (pj_4 (by with_reducible assumption))) | exact pj_8 (pj_4 (by with_reducible assumption)) | exact pj_l (pj_8 (pj_4 (pj_r (by with_reducible assumption)))) | exact pj_8 (pj_4 (pj_r (by with_reducible assumption))) | exact pj_l (pj_8 (pj_4 (pj_2 (by with_reducible assumption)))) | exact pj_8 (pj_4 (pj_2 (by with_reducible assumption))) | exact pj_l (pj_8 (pj_4 (pj_2 (pj_r (by with_reducible assumption))))) | exact pj_8 (pj_4 (pj_2 (pj_r (by with_reducible assumption)))) | exact pj_l (pj_16 (by with_reducible assumption)) | exact pj_16 (by with_reducible assumption) | exact pj_l (pj_16 (pj_r (by with_reducible assumption))) | exact pj_16 (pj_r (by with_reducible assumption)) | exact pj_l (pj_16 (pj_2 (by with_reducible assumption))) | exact pj_16 (pj_2 (by with_reducible assumption)) | exact pj_l (pj_16 (pj_2 (pj_r (by with_reducible assumption)))) | exact pj_16 (pj_2 (pj_r (by with_reducible assumption))) | exact pj_l (pj_16 (pj_4 (by with_reducible assumption))) | exact pj_16 (pj_4 (by with_reducible assumption)) | exact pj_l (pj_16 (pj_4 (pj_r (by with_reducible assumption)))) | exact pj_16 (pj_4 (pj_r (by with_reducible assumption))) | exact pj_l (pj_16 (pj_4 (pj_2 (by with_reducible assumption)))) | exact pj_16 (pj_4 (pj_2 (by with_reducible assumption))) | exact pj_l (pj_16 (pj_4 (pj_2 (pj_r (by with_reducible assumption))))) | exact pj_16 (pj_4 (pj_2 (pj_r (by with_reducible assumption)))) | exact pj_l (pj_16 (pj_8 (by with_reducible assumption))) | exact pj_16 (pj_8 (by with_reducible assumption)) | exact pj_l (pj_16 (pj_8 (pj_r (by with_reducible assumption)))) | exact pj_16 (pj_8 (pj_r (by with_reducible assumption))) | exact pj_l (pj_16 (pj_8 (pj_2 (by with_reducible assumption)))) | exact pj_16 (pj_8 (pj_2 (by with_reducible assumption))) | exact pj_l (pj_16 (pj_8 (pj_2 (pj_r (by with_reducible assumption))))) | exact pj_16 (pj_8 (pj_2 (pj_r (by with_reducible assumption)))) | exact pj_l (pj_16 (pj_8 (pj_4 (by with_reducible assumption)))) | exact pj_16 (pj_8 (pj_4 (by with_reducible assumption))) | exact pj_l (pj_16 (pj_8 (pj_4 (pj_r (by with_reducible assumption))))) | exact pj_16 (pj_8 (pj_4 (pj_r (by with_reducible assumption)))) | exact pj_l (pj_16 (pj_8 (pj_4 (pj_2 (by with_reducible assumption))))) | exact pj_16 (pj_8 (pj_4 (pj_2 (by with_reducible assumption)))) | exact pj_l (pj_16 (pj_8 (pj_4 (pj_2 (pj_r (by with_reducible assumption)))))) | exact pj_16 (pj_8 (pj_4 (pj_2 (pj_r (by with_reducible assumption))))) | fail "mine"
  k_with "mine new" => first | ((with_reducible refine' ne_new ?hQz ?mQz); (case hQz => with_reducible assumption); (case mQz => k_extra "mine at")) | ((with_reducible refine' ne_new' ?hQz ?mQz); (case hQz => with_reducible assumption); (case mQz => k_extra "mine at")) | ((with_reducible refine' Nat.ne_of_lt ?hQz); (case hQz => k_extra "mine pj")) | ((with_reducible refine' Nat.ne_of_gt ?hQz); (case hQz => k_extra "mine pj")) | fail "mine"
  k_with "mine ne" => first | assumption | (refine Ne.symm ?_; assumption) | k_extra "mine new" | (refine neN ?_; (try dsimp only); first | k_extra "mine new" | omega) | fail "mine"
  k_with "mine off" => first | with_reducible assumption | exact Off.nil | (refine Off.tup ?_; k_extra "mine off") | (refine Off.ne ?_ ?_; (k_extra "mine ne"); (k_extra "mine off")) | fail "mine"
  k_with "mine sub" => first | with_reducible assumption | exact Sub.refl | (refine Sub.tl ?_; k_extra "mine sub") | (refine' Sub.gr ?pgQz ?pkQz; (case pgQz => with_reducible assumption); (case pkQz => k_extra "mine sub")) | fail "mine"
  k_with "call ref" => (k_here; (with_reducible show wpAny _ _ (call (Value.ref 220) [Value.ref _, Value.int _ _]) _ _ _); k_dflt ((with_reducible refine' take_use ?k1Qz ?k2Qz ?k3Qz ?k4Qz ?k5Qz ?a3Qz ?hfQz ?hkQz ?a1Qz ?a2Qz ?a4Qz ?hsQz ?hoQz ?htQz ?offQz ?_); (case k1Qz => k_asm); (case k2Qz => k_asm); (case k3Qz => k_asm); (case k4Qz => k_asm); (case k5Qz => k_asm); (case a3Qz => exact rfl); (case hfQz => exact rfl); (case hkQz => exact rfl); (case a1Qz => exact rfl); (case a2Qz => k_extra "mine room"); (case a4Qz => k_extra "mine room"); (case hoQz => assumption); (case hsQz => k_extra "mine pick"); (case htQz => exact ⟨by decide, by decide⟩); (case offQz => k_extra "mine off")); intro d'e34 td'e34 o'e34 h'e34 tk'e34 hd0e34 hd1e34 ho'e34 F'e34 N'e34; (try dsimp only); (try k_sweep); (try k_fold))
  k_with "mine subt" => first | exact SubT.refl | with_reducible assumption | (refine' SubT.tl ?pkQz; (case pkQz => k_extra "mine subt")) | (refine' SubT.gr ?pgQz ?pkQz; (case pgQz => with_reducible assumption); (case pkQz => k_extra "mine subt")) | (refine' SubT.sb ?pgQz ?pkQz; (case pgQz => with_reducible assumption); (case pkQz => k_extra "mine subt")) | fail "mine"
  k_with "subscriptTail" => (k_here; (with_reducible show wpAny _ _ (subscriptTail _ _ (Value.ref _) (Value.int _ _)) _ _ _); k_dflt ((first | with_reducible refine' tupAt_item ?htQz ?XQz ?FQz ?NQz ?stQz ?k3Qz ?k4Qz ?k5Qz ?k6Qz ?_ ?k7Qz | refine' tupAt_item ?htQz ?XQz ?FQz ?NQz ?stQz ?k3Qz ?k4Qz ?k5Qz ?k6Qz ?_ ?k7Qz); (case htQz => with_reducible assumption); (case XQz => k_asm); (case FQz => k_asm); (case NQz => k_asm); (case stQz => k_extra "mine subt"); (case k3Qz => decide); (case k4Qz => decide); (case k5Qz => exact rfl); (case k6Qz => exact rfl); (case k7Qz => with_unfolding_all rfl)); (try dsimp only); (try k_fold))
  k_with "subscriptTail Name Constant ref int" => (k_here; (with_reducible show wpAny _ _ (subscriptTail _ _ (Value.ref _) (Value.int _ _)) _ _ _); k_dflt ((first | with_reducible refine' tupAt_item ?htQz ?XQz ?FQz ?NQz ?stQz ?k3Qz ?k4Qz ?k5Qz ?k6Qz ?_ ?k7Qz | refine' tupAt_item ?htQz ?XQz ?FQz ?NQz ?stQz ?k3Qz ?k4Qz ?k5Qz ?k6Qz ?_ ?k7Qz); (case htQz => with_reducible assumption); (case XQz => k_asm); (case FQz => k_asm); (case NQz => k_asm); (case stQz => k_extra "mine subt"); (case k3Qz => decide); (case k4Qz => decide); (case k5Qz => exact rfl); (case k6Qz => exact rfl); (case k7Qz => with_unfolding_all rfl)); (try dsimp only); (try k_fold))
  k_with "subscriptTail" => (k_here; (with_reducible show wpAny _ _ (subscriptTail _ _ (Value.ref _) (Value.int 0 _)) _ _ _); k_dflt ((first | with_reducible refine' tupAt_head ?htQz ?XQz ?FQz ?NQz ?stQz ?_ ?k7Qz | refine' tupAt_head ?htQz ?XQz ?FQz ?NQz ?stQz ?_ ?k7Qz); (case htQz => with_reducible assumption); (case XQz => k_asm); (case FQz => k_asm); (case NQz => k_asm); (case stQz => k_extra "mine subt"); (case k7Qz => with_unfolding_all rfl)); (try dsimp only); (try k_fold))
  k_with "subscriptTail Name Constant ref int" => (k_here; (with_reducible show wpAny _ _ (subscriptTail _ _ (Value.ref _) (Value.int 0 _)) _ _ _); k_dflt ((first | with_reducible refine' tupAt_head ?htQz ?XQz ?FQz ?NQz ?stQz ?_ ?k7Qz | refine' tupAt_head ?htQz ?XQz ?FQz ?NQz ?stQz ?_ ?k7Qz); (case htQz => with_reducible assumption); (case XQz => k_asm); (case FQz => k_asm); (case NQz => k_asm); (case stQz => k_extra "mine subt"); (case k7Qz => with_unfolding_all rfl)); (try dsimp only); (try k_fold))
  k_with "compareOp Eq str str" => (k_here; (with_reducible show wpAny _ _ (compareOp CmpOp.Eq (Value.str _ _) (Value.str _ _)) _ _ _); k_dflt ((first | with_reducible refine' str_ne ?hnQz ?_ | refine' str_ne ?hnQz ?_); (case hnQz => with_reducible assumption)))
  k_with "compareOp NotEq str str" => (k_here; (with_reducible show wpAny _ _ (compareOp CmpOp.NotEq (Value.str _ _) (Value.str _ _)) _ _ _); k_dflt ((first | with_reducible refine' str_ne' ?hnQz ?_ | refine' str_ne' ?hnQz ?_); (case hnQz => with_reducible assumption)))
  k_with "call ref" => (k_here; (with_reducible show wpAny _ _ (call (Value.ref 28) [Value.ref _, _]) _ _ _); k_dflt ((first | with_reducible refine' under_use ?k1Qz ?k2Qz ?k3Qz ?k4Qz ?k5Qz ?a3Qz ?hfQz ?hkQz ?a1Qz ?a2Qz ?a4Qz ?hWQz ?hTQz ?sbQz ?_ | refine' under_use ?k1Qz ?k2Qz ?k3Qz ?k4Qz ?k5Qz ?a3Qz ?hfQz ?hkQz ?a1Qz ?a2Qz ?a4Qz ?hWQz ?hTQz ?sbQz ?_); (case k2Qz => k_asm); (case k1Qz => k_asm); (case k3Qz => k_asm); (case k4Qz => k_asm); (case k5Qz => k_asm); (case a3Qz => exact rfl); (case hfQz => first | exact rfl | assumption); (case hkQz => first | exact rfl | assumption); (case a1Qz => exact rfl); (case a2Qz => k_extra "mine room"); (case a4Qz => k_extra "mine room"); (case hWQz => with_reducible assumption); (case hTQz => with_reducible assumption); (case sbQz => k_extra "mine sub")); intro a'e103 x'e103 t'e103 vs'e103 h'e103 tk'e103 hat'e103 hah'e103 F'e103 N'e103; (try dsimp only); (try k_sweep); (rcases ArrHead.split hah'e103 with ⟨hia'e103, hxa'e103⟩ | ⟨hia'e103, hxa'e103⟩ <;> clear hah'e103); (subst hxa'e103); all_goals (try k_fold))
  k_with "call ref" => (k_here; (with_reducible show wpAny _ _ (call (Value.ref 35) [_, Value.ref _]) _ _ _); k_dflt ((first | with_reducible refine' root_use ?k1Qz ?k2Qz ?k3Qz ?k4Qz ?k5Qz ?a3Qz ?hfQz ?hkQz ?a1Qz ?a2Qz ?a4Qz ?hPQz ?hWQz ?sbQz ?_ | refine' root_use ?k1Qz ?k2Qz ?k3Qz ?k4Qz ?k5Qz ?a3Qz ?hfQz ?hkQz ?a1Qz ?a2Qz ?a4Qz ?hPQz ?hWQz ?sbQz ?_); (case k2Qz => k_asm); (case k1Qz => k_asm); (case k3Qz => k_asm); (case k4Qz => k_asm); (case k5Qz => k_asm); (case a3Qz => exact rfl); (case hfQz => first | exact rfl | assumption); (case hkQz => first | exact rfl | assumption); (case a1Qz => exact rfl); (case a2Qz => k_extra "mine room"); (case a4Qz => k_extra "mine room"); (case hPQz => with_reducible assumption); (case hWQz => with_reducible assumption); (case sbQz => k_extra "mine sub")); intro v'e108 h'e108 tk'e108 hR'e108 F'e108 N'e108; (try dsimp only); (try k_sweep); (rename Option Nat => r9e108; cases r9e108 <;> (dsimp only [RootV] at hR'e108) <;> (first | subst hR'e108 | (obtain ⟨rt'e108, hR'e108⟩ := hR'e108; subst hR'e108))); all_goals (try k_fold))
  k_with "mine sub" => first | with_reducible assumption | exact Sub.refl | (refine' Sub.tl ?pkQz; (case pkQz => k_extra "mine sub")) | (refine' Sub.gr ?pgQz ?pkQz; (case pgQz => with_reducible assumption); (case pkQz => k_extra "mine sub")) | (refine' Sub.by' ?pgQz ?pkQz; (case pgQz => with_reducible assumption); (case pkQz => k_extra "mine sub")) | fail "mine"
  k_with "call builtin:len" => (k_here; (with_reducible show wpAny _ _ (call (Value.builtin "len") [Value.ref _]) _ _ _); k_dflt (first | (refine' tupAt_lenN 4 ?htQz ?hnQz ?XQz ?FQz ?NQz ?stQz ?zQz ?_; (case htQz => with_reducible assumption); (case hnQz => exact rfl); (case XQz => k_asm); (case FQz => k_asm); (case NQz => k_asm); (case stQz => k_extra "mine subt"); (case zQz => exact Nat.le_of_ble_eq_true rfl)) | (refine' tupAt_lenN 5 ?htQz ?hnQz ?XQz ?FQz ?NQz ?stQz ?zQz ?_; (case htQz => with_reducible assumption); (case hnQz => exact rfl); (case XQz => k_asm); (case FQz => k_asm); (case NQz => k_asm); (case stQz => k_extra "mine subt"); (case zQz => exact Nat.le_of_ble_eq_true rfl)) | (refine' tupAt_lenN 7 ?htQz ?hnQz ?XQz ?FQz ?NQz ?stQz ?zQz ?_; (case htQz => with_reducible assumption); (case hnQz => exact rfl); (case XQz => k_asm); (case FQz => k_asm); (case NQz => k_asm); (case stQz => k_extra "mine subt"); (case zQz => exact Nat.le_of_ble_eq_true rfl)) | fail "len"); (try dsimp only); (try k_fold))
  k_with "compareOp Eq str str" => (k_here; (with_reducible show wpAny _ _ (compareOp CmpOp.Eq (Value.str _ _) (Value.str _ _)) _ _ _); k_dflt ((first | with_reducible refine' str_plain ?hpQz ?hnQz ?_ | refine' str_plain ?hpQz ?hnQz ?_); (case hpQz => with_reducible assumption); (case hnQz => decide +kernel)); (try k_fold))
  k_with "call ref" => (k_here; (with_reducible show wpAny _ _ (call (Value.ref 42) [_]) _ _ _); k_dflt ((first | with_reducible refine' ispart_use ?k1Qz ?k2Qz ?k3Qz ?k4Qz ?k5Qz ?a3Qz ?hfQz ?hkQz ?a1Qz ?a2Qz ?a4Qz ?hPQz ?sbQz ?_ ?_ | refine' ispart_use ?k1Qz ?k2Qz ?k3Qz ?k4Qz ?k5Qz ?a3Qz ?hfQz ?hkQz ?a1Qz ?a2Qz ?a4Qz ?hPQz ?sbQz ?_ ?_); (case hPQz => with_reducible assumption); (case k2Qz => k_asm); (case k1Qz => k_asm); (case k3Qz => k_asm); (case k4Qz => k_asm); (case k5Qz => k_asm); (case a3Qz => exact rfl); (case hfQz => first | exact rfl | assumption); (case hkQz => first | exact rfl | assumption); (case a1Qz => exact rfl); (case a2Qz => k_extra "mine room"); (case a4Qz => k_extra "mine room"); (case sbQz => k_extra "mine sub")); all_goals (intro h'e118 tk'e118 hb'e118 F'e118 N'e118; (try dsimp only); (try k_sweep); (try k_fold)))
  k_with "setItem ref int" => (k_here; (rename Obj.IsDictOf _ _ _ => hd9e119); k_dflt ((first | with_reducible refine' found_set hd9e119 ?hlQz ?FQz ?NQz ?hsQz ?offQz ?_ | refine' found_set hd9e119 ?hlQz ?FQz ?NQz ?hsQz ?offQz ?_); (case hlQz => first | omega | (refine Nat.le_trans stored_len ?_; omega)); (case FQz => k_asm); (case NQz => k_asm); (case hsQz => k_extra "mine pick"); (case offQz => k_extra "mine off")); intro h'e119 od'e119 hd'e119 F'e119 N'e119; (try dsimp only); (try k_sweep); (try k_fold))
  exact True.intro
--PART A19Type
section
local macro_rules | `(tactic| k_all) => `(tactic| assumption)
local macro_rules | `(tactic| k_mem) => `(tactic| k_extra "mine mem")
--#MACROS
theorem ln28 : True := by
  k_with "call builtin:isinstance" => (k_here; (with_reducible show wpAny _ _ (call (Value.builtin "isinstance") [Value.ref _, Value.type "tuple"]) _ _ _); k_dflt ((first | with_reducible refine' isi_tup ?htQz ?XQz ?FQz ?NQz ?stQz ?_ | refine' isi_tup ?htQz ?XQz ?FQz ?NQz ?stQz ?_); (case htQz => with_reducible assumption); (case XQz => k_asm); (case FQz => k_asm); (case NQz => k_asm); (case stQz => k_extra "mine subt")); (try dsimp only); (try k_fold))
  exact True.intro
--#END
section
theorem ln29 : True := by
  k_with "compareOp In str ref" => (k_here; k_dflt ((first | with_reducible refine' in_heads ?hxQz ?NQz ?hmQz ?hiQz ?hnQz ?_ | refine' in_heads ?hxQz ?NQz ?hmQz ?hiQz ?hnQz ?_); (case hxQz => with_reducible assumption); (case NQz => k_asm); (case hmQz => k_extra "mine mem"); (case hiQz => kde_strs); (case hnQz => decide +kernel)); (try dsimp only); (try k_fold))
  k_with "call builtin:len" => (k_here; (with_reducible show wpAny _ _ (call (Value.builtin "len") [Value.ref _]) _ _ _); k_dflt (first | (refine' tupAt_lenN 2 ?htQz ?hnQz ?XQz ?FQz ?NQz ?stQz ?zQz ?_; (case htQz => with_reducible assumption); (case hnQz => exact rfl); (case XQz => k_asm); (case FQz => k_asm); (case NQz => k_asm); (case stQz => k_extra "mine subt"); (case zQz => exact Nat.le_of_ble_eq_true rfl)) | (refine' tupAt_lenN 3 ?htQz ?hnQz ?XQz ?FQz ?NQz ?stQz ?zQz ?_; (case htQz => with_reducible assumption); (case hnQz => exact rfl); (case XQz => k_asm); (case FQz => k_asm); (case NQz => k_asm); (case stQz => k_extra "mine subt"); (case zQz => exact Nat.le_of_ble_eq_true rfl)) | fail "len"); (try dsimp only); (try k_fold))
  exact True.intro
set_option maxRecDepth 100000 in
set_option maxHeartbeats 8000000 in
theorem istype_con (w : World) : Con w 68 460 5700 itPre itPost := by
  unfold Con
  k_fill
  rintro ⟨fr, a, ws, b⟩ mean mg mb env outer gd A₀ base h₀ L m news s vs Q E B F X N T hf hk ⟨rfl, rfl, hat, hc⟩ hret
  try dsimp only at *
  rcases hc with ⟨rfl, hT⟩ | ⟨rfl, x, t, ws', rfl, hx⟩
  · cases hT
    case slice k9 =>
      have hk9 : TupAt news _ _ := .inr k9
      k_extra "mine enter"
      k_steps
      all_goals (refine' same_end hret ?F ?N ?sb ?q; (case F => k_asm); (case N => k_asm); (case q => exact ⟨rfl, rfl⟩); (case sb => k_extra "mine sub"))
    case array k9 =>
      have hk9 : TupAt news _ _ := .inr k9
      k_extra "mine enter"
      k_steps
      all_goals (refine' same_end hret ?F ?N ?sb ?q; (case F => k_asm); (case N => k_asm); (case q => exact ⟨rfl, rfl⟩); (case sb => k_extra "mine sub"))
    all_goals (k_extra "mine enter")
    all_goals k_steps
    all_goals (refine' same_end hret ?F ?N ?sb ?q; (case F => k_asm); (case N => k_asm); (case q => exact ⟨rfl, rfl⟩); (case sb => k_extra "mine sub"))
  · k_extra "mine enter"
    k_steps
    all_goals (refine' same_end hret ?F ?N ?sb ?q; (case F => k_asm); (case N => k_asm); (case q => exact ⟨rfl, rfl⟩); (case sb => k_extra "mine sub"))
end
theorem istype_use {w : World} {a : Addr} {ws : List Value} {b : Bool} {l : Led}
    {mean : ExcName → Option Value} {mg mb : Str → Option Value} {A : Around} {env : Env} {outer : List Env} {A₀ : Around} {base h₀ : Heap} {L : Addr} {m : Str → Option Value} {news : Led} {s : Shared} {Q E : Value → Shared → Prop}
    (B : Below A₀ base outer h₀) (F : Fr h₀ L s.heap m) (X : (hd.heap_39 w.params).In h₀) (N : News h₀ L s.heap news) (T : Top hd.view_39 (looseW hd.view_39 [Str.ofString "ChanError"]) mean mg mb h₀)
    (a3 : A.frames = some (env :: outer)) (hf : env.frame = some L) (hk : env.scope.kind = .function) (a1 : A.handled = none) (a2 : A.depth ≤ 460) (a4 : A.units ≤ 5700)
    (hc : (b = true ∧ TypeLike ws) ∨ (b = false ∧ ∃ x t vs, ws = .str x t :: vs ∧ x ∈ nodeHeads)) (hat : TupAt l a ws) (st : SubT l news)
    (k : ∀ h' tk', Fr h₀ L h' m → News h₀ L h' news → Q (.bool b) { s with heap := h', toks := tk' }) :
    wpAny (model PySem.Challenge.rw_on0017_01.row.prog w) A (call (.ref 68) [.ref a]) Q E s :=
  (istype_con w).use ⟨news, a, ws, b⟩ B F X N T hf hk a1 a2 a3 a4 (fun _ m => m) ⟨rfl, rfl, hat.mono st, hc⟩ (fun v news' h' tk' F' N' hp => by
    obtain ⟨rfl, rfl⟩ := hp
    exact k _ _ F' N')

end
--PART A20Bl
section
theorem WalkAll.at {l : Led} : ∀ {vs : List Value} {xs : List Int} {n : Nat}, WalkAll l vs xs n → ∀ {i : Nat} {v : Value}, vs[i]? = some v → plainV v = true ∨ ∃ a ws, v = .ref a ∧ TupAt l a ws
  | _, _, _, .nil, i, v, h => by simp at h
  | _, _, _, .cons a r, 0, v, h => by
    obtain rfl : _ = v := Option.some.inj h
    rcases a.cases2 with ⟨hp, _, _⟩ | ⟨b, ws, e, ht, _⟩
    · exact .inl hp
    · exact .inr ⟨b, ws, e, ht⟩
  | _, _, _, .cons a r, i + 1, v, h => r.at (i := i) (by simpa using h)
section
open PyProof.Rows.LCg
variable {prog : Program} {w : World} {A : Around} {E : Value → Shared → Prop} {s : Shared} {h₀ : Heap} {L : Addr} {m : Str → Option Value} {env : Env}
noncomputable def PtEnd (h₀ : Heap) (L : Addr) (m : Str → Option Value) (fr : Led) (s₁ : Shared) (v y : Value) (s₂ : Shared) : Prop := ∃ h' tk, s₂ = { s₁ with heap := h', toks := tk } ∧ y = v ∧ Fr h₀ L h' m ∧ News h₀ L h' fr
theorem parts_comp {P : Params} {elt ct iter : Expr} {x : Str} {px : Pos} {scope : Scope} {cl : List (Str × Addr)} {pos : Pos} {Q : Value → Shared → Prop} {s₁ : Shared} {a : Addr} {vs : List Value} {l news r₁ fr₀ : Led} {xs : List Int} {n : Nat} {p1 p2 : Addr × Obj}
    (hW : WalkAll l vs xs n) (ht : TupAt l a vs) (X : (hd.heap_39 P).In h₀) (F : Fr h₀ L s₁.heap m) (N : News h₀ L s₁.heap news) (hs : Pick p1 news r₁) (hs2 : Pick p2 r₁ fr₀) (off1 : Off p1.1 fr₀) (off2 : Off p2.1 fr₀) (st : SubT l fr₀) (hn : n ≤ 100000) (hh : A.handled = none)
    (hcell : ∀ y ∈ scope.names, y.2 ≠ .cell) (hkind : scope.kind = .function) (hx : scope.names.lookup x = some .local)
    (turnT : ∀ b ws C oC m₂ fr h tk (E' : Value → Shared → Prop), TupAt fr b ws → (C, oC) ∈ fr → NsObj oC m₂ → m₂ x = some (.ref b) → Fr h₀ L h m → News h₀ L h (p1 :: p2 :: fr) →
      wpAny (model prog w) A (isTrue ct (compEnvC scope cl C env) (eval ct (compEnvC scope cl C env))) (fun ok s' => if ok = true then wpAny (model prog w) A (eval elt (compEnvC scope cl C env)) (PtEnd h₀ L m (p1 :: p2 :: fr) { s₁ with heap := h, toks := tk } (.ref b)) E' s' else False) E' { s₁ with heap := h, toks := tk })
    (turnP : ∀ v C oC m₂ fr h tk (E' : Value → Shared → Prop), plainV v = true → (C, oC) ∈ fr → NsObj oC m₂ → m₂ x = some v → Fr h₀ L h m → News h₀ L h (p1 :: p2 :: fr) →
      wpAny (model prog w) A (isTrue ct (compEnvC scope cl C env) (eval ct (compEnvC scope cl C env))) (fun ok s' => if ok = true then wpAny (model prog w) A (eval elt (compEnvC scope cl C env)) (fun _ _ => False) E' s' else PtEnd h₀ L m (p1 :: p2 :: fr) { s₁ with heap := h, toks := tk } .none .none s') E' { s₁ with heap := h, toks := tk })
    (fin : ∀ D h tk fr', Grow fr₀ fr' → Off p1.1 fr' → Off p2.1 fr' → @Ne Nat D p1.1 → @Ne Nat D p2.1 → Fr h₀ L h m → News h₀ L h ((D, listOf (vs.filter isRefV).toArray (vs.filter isRefV).length) :: p1 :: p2 :: fr') → Q (.ref D) { s₁ with heap := h, toks := tk }) :
    CSrc prog w A elt iter [ct] x px scope cl pos env none E Q (.ref a) s₁ := by
  have hsub : ∀ p ∈ p1 :: p2 :: fr₀, p ∈ news := fun p m => hs.sub p (by
    rcases List.mem_cons.mp m with rfl | m
    · exact .head _
    · exact .tail _ (hs2.sub p m))
  have N1 : News h₀ L s₁.heap (p1 :: p2 :: fr₀) := fun p m => N p (hsub p m)
  have hlen : ∀ i, ((vs.take i).filter isRefV).length ≤ n := fun i => Nat.le_trans ((List.take_sublist i vs).filter _).length_le (hW.refs.len (refs_all vs))
  have hsrc : ItSrc prog w A h₀ L fr₀ vs.toArray.size (fun i v => vs.toArray[i]? = some v) (.ref a) s₁ := by
    rcases ht with m | k
    · exact ItSrc.tuple hh (N1 _ (.tail _ (.tail _ (st.tup m)))).1 (.inl (st.tup m))
    · exact ItSrc.tuple hh (k.get (X.keeps F.keep)) (.inr (k.get X))
  refine CSrc.go (σ := Unit) (fun _ => [p1, p2]) [p1.1, p2.1] (fun i _ ys fr => ys = (vs.take i).filter isRefV ∧ SubT l fr) () fr₀ (fun _ => rfl) (fun i c ys fr fr' s' q => ⟨q.1, fun p hp hT => s' p (q.2 p hp hT) hT⟩) hsrc (fun i c ys fr hi q => by rw [q.1, sizeLine_eq]; exact Nat.le_trans (hlen i) (by omega)) hcell hkind hx F N1 ?_ ⟨by simp, st⟩ ?_ ?_
  · intro b hb
    rcases List.mem_cons.mp hb with rfl | hb
    · exact off1
    · rw [List.mem_singleton.mp hb]; exact off2
  · rintro i v _ ys fr I oI C oC D m₂ h tk E' hi hv sb ⟨rfl, stf⟩ hC hx' hoff F' N'
    have hv' : vs[i]? = some v := by simpa using hv
    have hstep : vs.take (i + 1) = vs.take i ++ [v] := by rw [List.take_add_one, hv']; rfl
    refine wpAny_tests_one ?_
    have hfin : ∀ (b : Bool) (y : Value) (s'' : Shared), isRefV v = b → (b = true → y = v) → PtEnd h₀ L m (p1 :: p2 :: ((I, oI) :: (C, oC) :: (D, lst ((vs.take i).filter isRefV)) :: fr)) { s₁ with heap := h, toks := tk } (if b then v else .none) y s'' →
        CTurnEnd h₀ L m (fun _ : Unit => [p1, p2]) [p1.1, p2.1] (fun _ fr' => (if b then (vs.take i).filter isRefV ++ [y] else (vs.take i).filter isRefV) = (vs.take (i + 1)).filter isRefV ∧ SubT l fr') ((I, oI) :: (C, oC) :: (D, lst ((vs.take i).filter isRefV)) :: fr) { s₁ with heap := h, toks := tk } s'' := by
      rintro b y s'' hb hy ⟨h', tk', rfl, hyv, F2, N2⟩
      refine ⟨h', tk', (), _, rfl, F2, N2, Grow.refl, hoff, ?_, fun p hp hT => .tail _ (.tail _ (.tail _ (stf p hp hT)))⟩
      rw [hstep, List.filter_append]
      cases b with
      | true =>
        have e : y = v := hy rfl
        subst e
        simp [hb]
      | false => simp [hb]
    rcases hW.at hv' with hp | ⟨b, ws, rfl, hb⟩
    · have e : isRefV v = false := by cases v <;> first | rfl | cases hp
      refine wpAny_mono (turnP v C oC m₂ _ h tk E' hp (.tail _ (.head _)) hC hx' F' N') (fun ok s' q => ?_) fun _ _ e => e
      cases ok with
      | true =>
        simp only [if_true] at q ⊢
        exact wpAny_mono q (fun _ _ z => z.elim) fun _ _ e => e
      | false =>
        simp only [Bool.false_eq_true, if_false] at q ⊢
        simpa using hfin false .none s' e (fun e => nomatch e) q
    · have hb' : TupAt ((I, oI) :: (C, oC) :: (D, lst ((vs.take i).filter isRefV)) :: fr) b ws := hb.mono fun p hp hT => .tail _ (.tail _ (.tail _ (stf p hp hT)))
      refine wpAny_mono (turnT b ws C oC m₂ _ h tk E' hb' (.tail _ (.head _)) hC hx' F' N') (fun ok s' q => ?_) fun _ _ e => e
      cases ok with
      | true =>
        simp only [if_true] at q ⊢
        refine wpAny_mono q (fun y s'' z => ?_) fun _ _ e => e
        have hy : y = .ref b := let ⟨_, _, _, e, _⟩ := z; e
        simpa using hfin true y s'' rfl (fun _ => hy) z
      | false =>
        simp only [Bool.false_eq_true, if_false] at q
  · rintro D h tk _ ys fr' g off nD ⟨rfl, _⟩ F' N'
    have e : (vs.take vs.toArray.size) = vs := by rw [List.size_toArray, List.take_length]
    rw [e] at N'
    exact fin D h tk fr' g (off _ (.head _)) (off _ (.tail _ (.head _))) (fun e => nD p1 (.head _) e.symm) (fun e => nD p2 (.tail _ (.head _)) e.symm) F' N'
end

end
--PART A21Loops
section
section
variable {prog : Program} {w : World} {A : Around} {E : Value → Shared → Prop} {s : Shared} {env : Env} {h₀ : Heap} {x : Str} {body : List Stmt} {Q : Flow → Shared → Prop}
theorem loop_dict {σ : Type} {ax : Addr} {od : Obj} {kvs : List (Str × Value)} {m₀ : Str → Option Value}
    (mu : σ → Led) (adr : List Addr) (ps : σ → List (Str × Value)) (stored : List Str) (Inv : Nat → σ → Led → Prop) (c₀ : σ) (fr₀ : Led)
    (hadr : ∀ c, (mu c).map (·.1) = adr) (hmono : ∀ i c fr fr', SubT fr fr' → Inv i c fr → Inv i c fr') (hh : A.handled = none) (hd : od.IsDictOf (PySem.strKind prog w) kvs) (hm : (ax, od) ∈ fr₀) (lo : (ax == sysModules) = false) (hax : ax ∉ adr)
    (F : Fr h₀ env.locals s.heap m₀) (N : News h₀ env.locals s.heap (mu c₀ ++ fr₀)) (ho : OffA adr fr₀) (hk : ∀ p ∈ ps c₀, m₀ p.1 = some p.2) (h0 : Inv 0 c₀ fr₀)
    (turn : ∀ i k v t c fr (u : Str → Option Value) h tk, i < kvs.length → kvs[i]? = some (k, v) → Sub fr₀ fr → OffA adr fr → Inv i c fr →
      Fr h₀ env.locals h (fun y => if y = x then some (.str k t) else kstB (fun z => if stored.contains z then u z else m₀ z) (ps c) y) → News h₀ env.locals h (mu c ++ fr) →
      wpAny (model prog w) A (execs body env) (TurnPost (GrowX ax) h₀ env.locals mu adr ps x stored m₀ (Inv (i + 1)) fr { s with heap := h, toks := tk } Q) E { s with heap := h, toks := tk })
    (done : ∀ c fr (u : Str → Option Value) h tk, Grow fr₀ fr → OffA adr fr → Inv kvs.length c fr → Fr h₀ env.locals h (fun y => if y = x then u y else kstB (fun z => if stored.contains z then u z else m₀ z) (ps c) y) → News h₀ env.locals h (mu c ++ fr) → Q .next { s with heap := h, toks := tk }) :
    wpAny (model prog w) A (pyIter (.ref ax)) (fun it s₂ => LoopAtV prog w A h₀ env x body Q E it s₂) E s := by
  have hN := N _ (mem_apR hm)
  have hlt : ax < s.heap.objs.size := Heap.lt_size hN.1
  obtain ⟨ep, hat⟩ := (Heap.dictOf_iff.mpr ⟨od, hN.1, hd⟩ : s.heap.DictOf (PySem.strKind prog w) ax kvs).dictAt
  refine wpAny_pyIter_dict lo hat ?_
  have W := Walks.dictKeys (prog := prog) (w := w) (knd := PySem.strKind prog w) hh s.heap.objs.size ax (Nat.ne_of_lt hlt) kvs ep
  have nw : ∀ p ∈ mu c₀ ++ fr₀, p.1 ≠ s.heap.objs.size := fun p hp e => absurd (Heap.lt_size (N p hp).1) (e ▸ Nat.lt_irrefl _)
  refine loop_fr (GrowX ax) mu adr ps stored Inv c₀ fr₀ Grow.refl.X (fun _ _ g => g.1) (fun frJ own fr' g ho g' sb => ⟨sb, fun p hp => ?_⟩) hadr hmono W ?_ ?_ ?_ ?_ ?_ ⟨⟨_, Heap.get?_push_size _ rfl, rfl, rfl⟩, hat.at' fun o e => Heap.get?_push_of_some _ e⟩ (F.push _) (fun p hp => ⟨Heap.get?_push_of_some _ (N p hp).1, (N p hp).2⟩) ho hk h0 ?_
    (fun c fr u h tk g o i F' N' => done c fr u h tk (g.back hm fun p hp => N' p (mem_apR hp)) o i F' N')
  · obtain ⟨hp, hw⟩ := List.mem_filter.mp hp
    rcases g'.2 p hp with q | q | q
    · rcases List.mem_append.mp q with q | q
      · exact g.2 p q
      · have z := ho p q
        simp at z hw
        rcases z with z | z
        · exact absurd z hw
        · exact .inr (.inr z)
    · exact .inr (.inl q)
    · exact .inr (.inr q)
  · intro i h hi b hb
    rcases List.mem_cons.mp hb with rfl | hb
    · obtain ⟨o, e, hc, _⟩ := hi.1
      exact ⟨o, e, by rw [hc]; exact fun e => absurd (Value.type.inj e) (by decide)⟩
    · rw [List.mem_singleton.mp hb]
      obtain ⟨o, es, e, hc, _⟩ := hi.2
      exact ⟨o, e, by rw [hc.1]; exact fun e => absurd (Value.type.inj e) (by decide)⟩
  · intro hm'
    rcases List.mem_cons.mp hm' with e | hm'
    · exact absurd F.ns.lt (e ▸ Nat.lt_irrefl _)
    · exact hN.2.1 (List.mem_singleton.mp hm').symm
  · intro b hb
    rw [List.mem_singleton.mp hb]
    exact next_is_new F
  · intro b hb ha
    rcases List.mem_cons.mp hb with rfl | hb
    · rw [← hadr c₀] at ha
      obtain ⟨p, hp, e⟩ := List.mem_map.mp ha
      exact nw p (mem_apL hp) e
    · exact hax (List.mem_singleton.mp hb ▸ ha)
  · intro p hp hI
    exact nw p (mem_apR hp) (List.mem_singleton.mp hI)
  · rintro i v c fr u h tk hi ⟨k, z, hkz, hkv⟩ hs hoff hI F₁ N₁
    have hv : ∃ t, v = .str k t := by
      cases v <;> simp [PySem.strKind, Value.isStrOf] at hkv
      exact ⟨_, by rw [hkv]⟩
    obtain ⟨t, rfl⟩ := hv
    exact turn i k z t c fr u h tk hi hkz hs hoff hI F₁ N₁
end
/-- the literals: the outer local of each -/
inductive LitsAre (l : Led) : List (Str × Value) → List Int → Prop
  | nil : LitsAre l [] []
  | cons {k : Str} {t d c p : Addr} {es : List DictEntry} {n : Nat} {a b : Tok} {o : Int} {r : List (Str × Value)} {os : List Int} : (t, instObj 90 d) ∈ l → (d, dictOf es n) ∈ l → getL (Str.ofString "captured") es = some (some (.ref c)) → (c, tupO [.ref p]) ∈ l → (p, tupO [.int 0 a, .int o b]) ∈ l →
      LitsAre l r os → LitsAre l ((k, .ref t) :: r) (o :: os)
theorem LitsAre.mono {l l' : Led} (s : Sub l l') : ∀ {ks : List (Str × Value)} {os : List Int}, LitsAre l ks os → LitsAre l' ks os
  | _, _, .nil => .nil
  | _, _, .cons h1 h2 h3 h4 h5 r => .cons (s _ h1) (s _ h2) h3 (s _ h4) (s _ h5) (r.mono s)
theorem LitsAre.at {l : Led} : ∀ {ks : List (Str × Value)} {os : List Int}, LitsAre l ks os → ∀ {i : Nat} {k : Str} {v : Value}, ks[i]? = some (k, v) →
    ∃ t d c p es n a b o, v = .ref t ∧ os[i]? = some o ∧ (t, instObj 90 d) ∈ l ∧ (d, dictOf es n) ∈ l ∧ getL (Str.ofString "captured") es = some (some (.ref c)) ∧ (c, tupO [.ref p]) ∈ l ∧ (p, tupO [.int 0 a, .int o b]) ∈ l
  | _, _, .nil, i, k, v, h => by simp at h
  | _, _, .cons h1 h2 h3 h4 h5 r, 0, k, v, h => by
    have e := Option.some.inj h
    cases e
    exact ⟨_, _, _, _, _, _, _, _, _, rfl, rfl, h1, h2, h3, h4, h5⟩
  | _, _, .cons h1 h2 h3 h4 h5 r, i + 1, k, v, h => by
    have q := r.at (i := i) (by simpa using h)
    simpa using q
theorem LitsAre.len {l : Led} : ∀ {ks : List (Str × Value)} {os : List Int}, LitsAre l ks os → ks.length = os.length
  | _, _, .nil => rfl
  | _, _, .cons _ _ _ _ _ r => by rw [List.length_cons, List.length_cons, r.len]
theorem valueAt_at {kvs : List (Str × Value)} (hn : (kvs.map (·.1)).Nodup) : ∀ {i : Nat} {k : Str} {v : Value}, kvs[i]? = some (k, v) → valueAt kvs k = some v := by
  induction kvs with
  | nil => intro i k v h; simp at h
  | cons p r ih =>
    intro i k v h
    rw [List.map_cons, List.nodup_cons] at hn
    unfold valueAt
    cases i with
    | zero =>
      have e : p = (k, v) := Option.some.inj h
      subst e
      simp
    | succ i =>
      have h' : r[i]? = some (k, v) := by simpa using h
      have hne : p.1 ≠ k := fun e => hn.1 (e ▸ List.mem_map.mpr ⟨_, List.mem_of_getElem? h', rfl⟩)
      rw [List.find?_cons_of_neg (by simpa using hne)]
      exact ih hn.2 h'
noncomputable def ltInv (w : World) (ks : List Int) (len : Nat) (os : List Int) (i : Nat) (c : FD) (_ : Led) : Prop :=
  c.od.IsDictOf (PySem.intKind PySem.Challenge.rw_on0017_01.row.prog w) c.kvs ∧ (∀ y, y ∈ c.kvs.map (·.1) ↔ y ∈ ks ∨ y ∈ os.take i) ∧ c.kvs.length ≤ len + i
noncomputable def ltTmp : List Str := [Str.ofString "own", Str.ofString "outer"]
noncomputable def LtTurn (w : World) (h₀ : Heap) (L fo : Addr) (x : Str) (m₀ : Str → Option Value) (ks : List Int) (len : Nat) (os : List Int) (ax : Addr) (i : Nat) (fr : Led) (s₁ : Shared) (Q : Flow → Shared → Prop) (f : Flow) (s₂ : Shared) : Prop :=
  TurnPost (GrowX ax) h₀ L (fdMu fo) [fo] (fun _ => []) x ltTmp m₀ (ltInv w ks len os (i + 1)) fr s₁ Q f s₂
theorem lt_loop {w : World} {A : Around} {E : Value → Shared → Prop} {s : Shared} {env : Env} {h₀ : Heap} {x : Str} {body : List Stmt} {Q : Flow → Shared → Prop} {ax fo : Addr} {m₀ : Str → Option Value} {od lo : Obj} {kvs : List (Int × Value)} {lks : List (Str × Value)} {os : List Int} {news fr₀ l : Led}
    (hL : LitsAre l lks os) (hd : od.IsDictOf (PySem.intKind PySem.Challenge.rw_on0017_01.row.prog w) kvs) (hl : lo.IsDictOf (PySem.strKind PySem.Challenge.rw_on0017_01.row.prog w) lks) (hh : A.handled = none) (F : Fr h₀ env.locals s.heap m₀) (N : News h₀ env.locals s.heap news) (hs : Pick (fo, od) news fr₀) (hm : (ax, lo) ∈ fr₀) (hlo : (ax == sysModules) = false) (hax : @Ne Nat ax fo) (hoff : Off fo fr₀) (sb : Sub l fr₀)
    (turn : ∀ i k t tt d c p es n a b o od' kvs' fr (u : Str → Option Value) h tk, os[i]? = some o → valueAt lks k = some (.ref t) → (t, instObj 90 d) ∈ fr → (d, dictOf es n) ∈ fr → getL (Str.ofString "captured") es = some (some (.ref c)) → (c, tupO [.ref p]) ∈ fr → (p, tupO [.int 0 a, .int o b]) ∈ fr → Sub fr₀ fr → Off fo fr →
      od'.IsDictOf (PySem.intKind PySem.Challenge.rw_on0017_01.row.prog w) kvs' → (∀ y, y ∈ kvs'.map (·.1) ↔ y ∈ kvs.map (·.1) ∨ y ∈ os.take i) → kvs'.length ≤ kvs.length + i → i < os.length →
      Fr h₀ env.locals h (fun y => if y = x then some (.str k tt) else if ltTmp.contains y then u y else m₀ y) → News h₀ env.locals h ((fo, od') :: fr) →
      wpAny (model PySem.Challenge.rw_on0017_01.row.prog w) A (execs body env) (LtTurn w h₀ env.locals fo x m₀ (kvs.map (·.1)) kvs.length os ax i fr { s with heap := h, toks := tk } Q) E { s with heap := h, toks := tk })
    (done : ∀ od' kvs' fr (u : Str → Option Value) h tk, Grow fr₀ fr → Off fo fr → od'.IsDictOf (PySem.intKind PySem.Challenge.rw_on0017_01.row.prog w) kvs' → (∀ y, y ∈ kvs'.map (·.1) ↔ y ∈ kvs.map (·.1) ∨ y ∈ os) → kvs'.length ≤ kvs.length + os.length →
      Fr h₀ env.locals h (fun y => if y = x then u y else if ltTmp.contains y then u y else m₀ y) → News h₀ env.locals h ((fo, od') :: fr) → Q .next { s with heap := h, toks := tk }) :
    wpAny (model PySem.Challenge.rw_on0017_01.row.prog w) A (pyIter (.ref ax)) (fun it s₂ => LoopAtV PySem.Challenge.rw_on0017_01.row.prog w A h₀ env x body Q E it s₂) E s := by
  have hnd : (lks.map (·.1)).Nodup := let ⟨_, _, _, _, _, _, h⟩ := hl; h
  refine loop_dict (σ := FD) (fdMu fo) [fo] (fun _ => []) ltTmp (ltInv w (kvs.map (·.1)) kvs.length os) ⟨od, kvs⟩ fr₀ (fun _ => rfl) (fun i c fr fr' st h => h) hh hl hm hlo (by simpa using hax) F (fun p m => N p (hs.sub p m)) ?_ (fun p hp => nomatch hp) ⟨hd, by intro y; simp, by simp⟩ ?_ ?_
  · intro a ha
    rw [List.mem_singleton.mp ha]; exact hoff
  · rintro i k v tt ⟨od', kvs'⟩ fr u h tk hi hv sb' off ⟨h1, h2, h3⟩ F' N'
    obtain ⟨t, d, c, p, es, n, a, b, o, rfl, ho, q1, q2, q3, q4, q5⟩ := (hL.mono (sb.trans sb')).at hv
    exact turn i k t tt d c p es n a b o od' kvs' fr u h tk ho (valueAt_at hnd hv) q1 q2 q3 q4 q5 sb' (off fo (.head _)) h1 h2 h3 (hL.len ▸ hi) F' N'
  · rintro ⟨od', kvs'⟩ fr u h tk g off ⟨h1, h2, h3⟩ F' N'
    rw [hL.len] at h2 h3
    exact done od' kvs' fr u h tk g (off fo (.head _)) h1 (fun y => by rw [h2 y, List.take_length]) h3 F' N'
theorem lt_turn {w : World} {h₀ h : Heap} {L fo ax : Addr} {x : Str} {m₀ m' : Str → Option Value} {ks : List Int} {len : Nat} {os : List Int} {i : Nat} {o : Int} {v : Value} {fr fr' news : Led} {s₁ : Shared} {Q : Flow → Shared → Prop} {od : Obj} {kvs : List (Int × Value)} {tk : Nat}
    (hd : od.IsDictOf (PySem.intKind PySem.Challenge.rw_on0017_01.row.prog w) (stored kvs o v)) (F : Fr h₀ L h m') (N : News h₀ L h news) (hs : Pick (fo, od) news fr') (sb : Sub fr fr') (off : Off fo fr) (hk : ∀ y, y ∈ kvs.map (·.1) ↔ y ∈ ks ∨ y ∈ os.take i) (ho : os[i]? = some o) (hl : kvs.length ≤ len + i)
    (hm : ∀ z, z ≠ x → ltTmp.contains z = false → m' z = m₀ z) : LtTurn w h₀ L fo x m₀ ks len os ax i fr s₁ Q .next { s₁ with heap := h, toks := tk } := by
  refine ⟨h, tk, m', ⟨od, stored kvs o v⟩, clean fr fr', rfl, F, fun p m => N p (hs.sub p ?_), Grow.clean.X, ?_, (fun p hp => nomatch hp), fun z h1 _ h3 => hm z h1 h3, hd, ?_, ?_⟩
  · rcases List.mem_cons.mp m with rfl | m
    · exact .head _
    · exact .tail _ (sb.clean p m)
  · intro a ha
    rw [List.mem_singleton.mp ha]; exact off.clean
  · intro y
    rw [stored_keys, hk y, List.take_add_one, ho, List.mem_append]
    simp [or_assoc]
  · have := stored_len (kvs := kvs) (k := o) (v := v)
    dsimp only
    omega
/-- what the function has captured itself -/
inductive CapIs (l : Led) : Addr → List Int → Prop
  | none {a : Addr} : (a, tupO []) ∈ l → CapIs l a []
  | one {a p : Addr} {t u : Tok} {k o : Int} : (a, tupO [.ref p]) ∈ l → (p, tupO [.int k t, .int o u]) ∈ l → CapIs l a [k]
noncomputable def MidEnd (w : World) (h₀ : Heap) (L : Addr) (m : Str → Option Value) (fo : Addr) (kvs : List (Int × Value)) (caps : List Int) (fr : Led) (s : Shared) (f : Flow) (s₂ : Shared) : Prop :=
  f = .next ∧ ∃ od' kvs' fr', ∃ u : Str → Option Value, ∃ h' tk', s₂ = { s with heap := h', toks := tk' } ∧ Grow fr fr' ∧ Off fo fr' ∧ od'.IsDictOf (PySem.intKind PySem.Challenge.rw_on0017_01.row.prog w) kvs' ∧ (∀ y, y ∈ kvs'.map (·.1) ↔ y ∈ kvs.map (·.1) ∨ y ∈ caps) ∧ kvs'.length ≤ kvs.length + 1 ∧
    Fr h₀ L h' (fun z => if ltTmp.contains z then u z else m z) ∧ News h₀ L h' ((fo, od') :: fr')
theorem bl_cut {M : Model} {A : Around} {t : Sem Flow} {Q : Flow → Shared → Prop} {E : Value → Shared → Prop} {s : Shared} {h₀ : Heap} {L fo ca : Addr} {m : Str → Option Value} {news fr l : Led} {od : Obj} {kvs : List (Int × Value)} {caps : List Int} {w : World}
    (_hc : CapIs l ca caps) (_hd : od.IsDictOf (PySem.intKind PySem.Challenge.rw_on0017_01.row.prog w) kvs) (_F : Fr h₀ L s.heap m) (_N : News h₀ L s.heap news) (_hs : Pick (fo, od) news fr) (ga : wpAny M A t (MidEnd w h₀ L m fo kvs caps fr s) E s)
    (gb : ∀ od' kvs' fr' (u : Str → Option Value) h' tk', Grow fr fr' → Off fo fr' → od'.IsDictOf (PySem.intKind PySem.Challenge.rw_on0017_01.row.prog w) kvs' → (∀ y, y ∈ kvs'.map (·.1) ↔ y ∈ kvs.map (·.1) ∨ y ∈ caps) → kvs'.length ≤ kvs.length + 1 →
      Fr h₀ L h' (fun z => if ltTmp.contains z then u z else m z) → News h₀ L h' ((fo, od') :: fr') → Q .next { s with heap := h', toks := tk' }) : wpAny M A t Q E s :=
  wpAny_mono ga (fun f s' hx => by obtain ⟨e1, od', kvs', fr', u, h', tk', e2, q1, q2, q3, q4, q5, q6, q7⟩ := hx; rw [e1, e2]; exact gb od' kvs' fr' u h' tk' q1 q2 q3 q4 q5 q6 q7) fun _ _ e => e
theorem mid_end {w : World} {h₀ h : Heap} {L fo : Addr} {m m' : Str → Option Value} {kvs kvs' : List (Int × Value)} {caps : List Int} {fr fr' news : Led} {s : Shared} {od : Obj} {tk : Nat}
    (hd : od.IsDictOf (PySem.intKind PySem.Challenge.rw_on0017_01.row.prog w) kvs') (F : Fr h₀ L h m') (N : News h₀ L h news) (hs : Pick (fo, od) news fr') (sb : Sub fr fr') (off : Off fo fr) (hk : ∀ y, y ∈ kvs'.map (·.1) ↔ y ∈ kvs.map (·.1) ∨ y ∈ caps) (hl : kvs'.length ≤ kvs.length + 1)
    (hm : ∀ z, ltTmp.contains z = false → m' z = m z) : MidEnd w h₀ L m fo kvs caps fr s .next { s with heap := h, toks := tk } := by
  refine ⟨rfl, od, kvs', clean fr fr', m', h, tk, rfl, Grow.clean, off.clean, hd, hk, hl, ?_, fun p mm => N p (hs.sub p ?_)⟩
  · have e : (fun z => if ltTmp.contains z then m' z else m z) = m' := by
      funext z
      cases h9 : ltTmp.contains z with
      | true => simp
      | false => simp [hm z h9]
    rw [e]; exact F
  · rcases List.mem_cons.mp mm with rfl | mm
    · exact .head _
    · exact .tail _ (sb.clean p mm)
theorem mk0 {kvs : List (Int × Value)} (y : Int) : y ∈ kvs.map (·.1) ↔ y ∈ kvs.map (·.1) ∨ y ∈ ([] : List Int) := by simp
theorem mk1 {kvs : List (Int × Value)} {k : Int} {v : Value} (y : Int) : y ∈ (stored kvs k v).map (·.1) ↔ y ∈ kvs.map (·.1) ∨ y ∈ [k] := by rw [stored_keys]; simp

end
--PART A22While
section
structure BW where
  (od : Obj) (kvs : List (Int × Value)) (st : List Value) (q : Nat) (xs : List Int) (n : Nat)
noncomputable def bwTmp : List Str := [Str.ofString "node"]
noncomputable def bwOk (w : World) (fo D : Addr) (goal : Int → Prop) (fr₀ fr : Led) (c : BW) : Prop :=
  Grow fr₀ fr ∧ Off fo fr ∧ Off D fr ∧ c.od.IsDictOf (PySem.intKind PySem.Challenge.rw_on0017_01.row.prog w) c.kvs ∧ allRefs c.st ∧ WalkAll fr c.st c.xs c.n ∧ c.kvs.length + c.n ≤ 40000 ∧ ∀ y, (y ∈ c.kvs.map (·.1) ∨ y ∈ c.xs) ↔ goal y
noncomputable def BwEnd (w : World) (h₀ : Heap) (L : Addr) (m₀ : Str → Option Value) (fo D : Addr) (goal : Int → Prop) (fr₀ : Led) (n : Nat) (s s₂ : Shared) : Prop :=
  ∃ h' tk m' c fr', s₂ = { s with heap := h', toks := tk } ∧ Fr h₀ L h' m' ∧ News h₀ L h' ((fo, c.od) :: (D, listOf c.st.toArray c.q) :: fr') ∧ (∀ z, bwTmp.contains z = false → m' z = m₀ z) ∧ c.n < n ∧ bwOk w fo D goal fr₀ fr' c
noncomputable def BwPost (w : World) (h₀ : Heap) (L : Addr) (m₀ : Str → Option Value) (fo D : Addr) (goal : Int → Prop) (fr₀ : Led) (n : Nat) (s : Shared) (Q : Flow → Shared → Prop) (f : Flow) (s₂ : Shared) : Prop :=
  match f with
  | .ret v => Q (.ret v) s₂
  | .brk => Q .next s₂
  | _ => BwEnd w h₀ L m₀ fo D goal fr₀ n s s₂
theorem bw_while {w : World} {A : Around} {E : Value → Shared → Prop} {Q : Flow → Shared → Prop} {s : Shared} {env : Env} {h₀ : Heap} {L fo D : Addr} {test : Expr} {body : List Stmt} {pos : Pos} {m₀ : Str → Option Value} {news r₁ fr₀ : Led} {od : Obj} {kvs : List (Int × Value)} {st : List Value} {q : Nat} {xs : List Int} {n : Nat}
    (hW : WalkAll fr₀ st xs n) (hd : od.IsDictOf (PySem.intKind PySem.Challenge.rw_on0017_01.row.prog w) kvs) (F : Fr h₀ L s.heap m₀) (N : News h₀ L s.heap news) (hs : Pick (fo, od) news r₁) (hs2 : (D, listOf st.toArray q) ∈ r₁) (hs3 : Sub fr₀ r₁) (hoff : Off fo fr₀) (hoff2 : Off D fr₀) (hr : allRefs st) (hb : kvs.length + n ≤ 40000) (hE : PassesOwn (model PySem.Challenge.rw_on0017_01.row.prog w) A env E)
    (turn : ∀ od' kvs' st' q' xs' n' fr (u : Str → Option Value) h tk, Grow fr₀ fr → Off fo fr → Off D fr → od'.IsDictOf (PySem.intKind PySem.Challenge.rw_on0017_01.row.prog w) kvs' → allRefs st' → WalkAll fr st' xs' n' → kvs'.length + n' ≤ 40000 → (∀ y, (y ∈ kvs'.map (·.1) ∨ y ∈ xs') ↔ (y ∈ kvs.map (·.1) ∨ y ∈ xs)) →
      Fr h₀ L h (fun z => if bwTmp.contains z then u z else m₀ z) → News h₀ L h ((fo, od') :: (D, listOf st'.toArray q') :: fr) →
      wpAny (model PySem.Challenge.rw_on0017_01.row.prog w) A (isTrue test env (eval test env)) (fun b s₂ =>
        if b = true then wpAny (model PySem.Challenge.rw_on0017_01.row.prog w) A (execs body env) (BwPost w h₀ L m₀ fo D (fun y => y ∈ kvs.map (·.1) ∨ y ∈ xs) fr₀ n' s Q) E s₂ else Q .next s₂) E { s with heap := h, toks := tk }) :
    wpAny (model PySem.Challenge.rw_on0017_01.row.prog w) A (exec (.While test body [] pos) env) Q E s := by
  have hsub : ∀ p ∈ (fo, od) :: (D, listOf st.toArray q) :: fr₀, p ∈ news := fun p m => hs.sub p (by
    rcases List.mem_cons.mp m with rfl | m
    · exact .head _
    · rcases List.mem_cons.mp m with rfl | m
      · exact .tail _ hs2
      · exact .tail _ (hs3 p m))
  refine While_inv2 (fun k m nx => ∃ c fr, nx = (fo, c.od) :: (D, listOf c.st.toArray c.q) :: fr ∧ c.n = k ∧ (∀ z, bwTmp.contains z = false → m z = m₀ z) ∧ bwOk w fo D (fun y => y ∈ kvs.map (·.1) ∨ y ∈ xs) fr₀ fr c) F (fun p m => N p (hsub p m))
    ⟨⟨od, kvs, st, q, xs, n⟩, fr₀, rfl, rfl, fun _ _ => rfl, Grow.refl, hoff, hoff2, hd, hr, hW, hb, fun _ => Iff.rfl⟩ ?_ hE
  rintro k m₁ nx h tk F₁ N₁ ⟨⟨od', kvs', st', q', xs', n'⟩, fr, rfl, rfl, hm, g, o1, o2, hd', hr', hW', hb', hk'⟩
  have e : (fun z => if bwTmp.contains z then m₁ z else m₀ z) = m₁ := by
    funext z
    cases h9 : bwTmp.contains z with
    | true => simp
    | false => simp [hm z h9]
  refine wpAny_mono (turn od' kvs' st' q' xs' n' fr m₁ h tk g o1 o2 hd' hr' hW' hb' hk' (by rw [e]; exact F₁) N₁) (fun b s₂ p => ?_) fun _ _ x => x
  cases b with
  | false => simpa using p
  | true =>
    simp only [if_true] at p ⊢
    refine wpAny_mono p (fun f s₃ z => ?_) fun _ _ x => x
    cases f with
    | ret v => exact z
    | brk => exact z
    | next =>
      obtain ⟨h', tk', m', c, fr', rfl, F', N', hm', hn, ok⟩ := z
      exact ⟨h', tk', m', _, c.n, rfl, F', N', hn, c, fr', rfl, rfl, hm', ok⟩
    | cont =>
      obtain ⟨h', tk', m', c, fr', rfl, F', N', hm', hn, ok⟩ := z
      exact ⟨h', tk', m', _, c.n, rfl, F', N', hn, c, fr', rfl, rfl, hm', ok⟩
theorem bw_end {w : World} {h₀ h : Heap} {L fo D : Addr} {m₀ m' : Str → Option Value} {goal : Int → Prop} {fr₀ fr' news r₁ : Led} {n n' : Nat} {s : Shared} {od : Obj} {kvs : List (Int × Value)} {st : List Value} {q : Nat} {xs : List Int} {tk : Nat}
    (hW : WalkAll fr' st xs n') (hd : od.IsDictOf (PySem.intKind PySem.Challenge.rw_on0017_01.row.prog w) kvs) (F : Fr h₀ L h m') (N : News h₀ L h news) (hs : Pick (fo, od) news r₁) (hs2 : Pick (D, listOf st.toArray q) r₁ fr') (sb : Sub fr₀ fr') (off1 : Off fo fr₀) (off2 : Off D fr₀) (hr : allRefs st) (hn : n' < n) (hb : kvs.length + n' ≤ 40000) (hk : ∀ y, (y ∈ kvs.map (·.1) ∨ y ∈ xs) ↔ goal y)
    (hm : ∀ z, bwTmp.contains z = false → m' z = m₀ z) : BwEnd w h₀ L m₀ fo D goal fr₀ n s { s with heap := h, toks := tk } := by
  refine ⟨h, tk, m', ⟨od, kvs, st, q, xs, n'⟩, clean fr₀ fr', rfl, F, fun p m => N p (hs.sub p ?_), hm, hn, Grow.clean, off1.clean, off2.clean, hd, hr, hW.mono SubT.clean, hb, hk⟩
  rcases List.mem_cons.mp m with rfl | m
  · exact .head _
  · refine .tail _ (hs2.sub p ?_)
    rcases List.mem_cons.mp m with rfl | m
    · exact .head _
    · exact .tail _ (sb.clean p m)
theorem boxed_use2 {w : World} {fo D : Addr} {od o2 : Obj} {kvs : List (Int × Value)} {a W : Addr} {x : Str} {t : Tok} {vs : List Value} {own : List Int} {r₁ fr l : Led}
    {mean : ExcName → Option Value} {mg mb : Str → Option Value} {A : Around} {env : Env} {outer : List Env} {A₀ : Around} {base h₀ : Heap} {L : Addr} {m : Str → Option Value} {news : Led} {s : Shared} {Q E : Value → Shared → Prop}
    (hO : Own l x vs own) (hdd : od.IsDictOf (PySem.intKind PySem.Challenge.rw_on0017_01.row.prog w) kvs) (B : Below A₀ base outer h₀) (F : Fr h₀ L s.heap m) (X : (hd.heap_39 w.params).In h₀) (N : News h₀ L s.heap news) (T : Top hd.view_39 (looseW hd.view_39 [Str.ofString "ChanError"]) mean mg mb h₀)
    (a3 : A.frames = some (env :: outer)) (hf : env.frame = some L) (hk : env.scope.kind = .function) (a1 : A.handled = none) (a2 : A.depth ≤ 450) (a4 : A.units ≤ 5600)
    (hat : TupAt l a (.str x t :: vs)) (hW : WorldAt w l W) (hl : kvs.length ≤ 50000) (hs : Pick (fo, od) news r₁) (hs2 : Pick (D, o2) r₁ fr) (hne : @Ne Nat D fo) (ho2 : o2.cls = .type "list") (hoff : Off fo fr) (hoff2 : Off D fr) (sb : Sub l fr)
    (k : ∀ od' kvs' fr' h' tk', Grow fr fr' → Off fo fr' → Off D fr' → od'.IsDictOf (PySem.intKind PySem.Challenge.rw_on0017_01.row.prog w) kvs' → (∀ y, y ∈ kvs'.map (·.1) ↔ y ∈ kvs.map (·.1) ∨ y ∈ own) → kvs'.length ≤ kvs.length + 1 → Fr h₀ L h' m → News h₀ L h' ((fo, od') :: (D, o2) :: fr') → Q .none { s with heap := h', toks := tk' }) :
    wpAny (model PySem.Challenge.rw_on0017_01.row.prog w) A (call (.ref 61) [.ref a, .ref W, .ref fo]) Q E s := by
  have hd2 : o2.cls ≠ .type "tuple" := by rw [ho2]; exact fun e => absurd (Value.type.inj e) (by decide)
  have N1 : News h₀ L s.heap ((fo, od) :: (D, o2) :: fr) := fun p m => N p (hs.sub p (by
    rcases List.mem_cons.mp m with rfl | m
    · exact .head _
    · exact .tail _ (hs2.sub p m)))
  have sb' : Sub l ((D, o2) :: fr) := sb.tl
  refine (boxed_con w).use ⟨(D, o2) :: fr, a, W, fo, od, kvs, x, t, vs, own⟩ B F X N1 T hf hk a1 a2 a3 a4 (fun _ m => m) ⟨rfl, rfl, hat.mono sb'.T, hO.mono sb'.T, hW.mono sb', hoff.ne hne, hdd, hl⟩ (fun r news' h' tk' F' N' hp => ?_)
  obtain ⟨od', kvs', fr', rfl, rfl, g, hd', hk', hl'⟩ := hp
  obtain ⟨fr₁, g₁, st, sb₁⟩ := g.keep hd2 hoff2 (fun p m => N1 p (.tail _ m)) (fun p m => N' p (.tail _ m))
  refine k od' kvs' fr₁ _ _ g₁ (hoff.grow g₁) (hoff2.grow g₁) hd' hk' hl' F' fun p m => N' p ?_
  rcases List.mem_cons.mp m with rfl | m
  · exact .head _
  · exact .tail _ (sb₁ p m)
theorem last_of : ∀ {st : List Value}, st ≠ [] → ∃ st' v, st = st' ++ [v]
  | [], h => absurd rfl h
  | [v], _ => ⟨[], v, rfl⟩
  | v :: w :: r, _ => by
    obtain ⟨st', u, e⟩ := last_of (st := w :: r) (fun e => nomatch e)
    exact ⟨v :: st', u, by rw [e]; rfl⟩
theorem allRefs.left {a b : List Value} (h : allRefs (a ++ b)) : allRefs a := fun y hy => h y (List.mem_append.mpr (.inl hy))
theorem allRefs.app {a b : List Value} (h : allRefs a) (k : allRefs b) : allRefs (a ++ b) := fun y hy => (List.mem_append.mp hy).elim (h y) (k y)
structure BlG where
  (fr : Led) (tf W : Addr) (vs : List Value) (xs : List Int) (n : Nat) (caps outs : List Int)
/-- a TypedFn: its body, captured and literals -/
structure FnAt (w : World) (l : Led) (tf : Addr) (vs : List Value) (caps outs : List Int) : Prop where
  mk' ::
  ex : ∃ td es k bd ca la lo lks, (tf, instObj 90 td) ∈ l ∧ (td, dictOf es k) ∈ l ∧ (getL (Str.ofString "body") es = some (some (.ref bd)) ∧ getL (Str.ofString "captured") es = some (some (.ref ca)) ∧ getL (Str.ofString "literals") es = some (some (.ref la))) ∧
    (bd, tupO vs) ∈ l ∧ CapIs l ca caps ∧ (la, lo) ∈ l ∧ lo.IsDictOf (PySem.strKind PySem.Challenge.rw_on0017_01.row.prog w) lks ∧ LitsAre l lks outs ∧ (la == sysModules) = false
noncomputable def blPre (w : World) (g : BlG) (news : Led) (vs : List Value) : Prop := news = g.fr ∧ vs = [.ref g.tf, .ref g.W] ∧ WorldAt w g.fr g.W ∧ FnAt w g.fr g.tf g.vs g.caps g.outs ∧ WalkAll g.fr g.vs g.xs g.n ∧ allRefs g.vs ∧ g.n ≤ 30000 ∧ g.outs.length ≤ 100
noncomputable def blPost (w : World) (g : BlG) (news : Led) (v : Value) : Prop :=
  ∃ fo od kvs fr, v = .ref fo ∧ news = (fo, od) :: fr ∧ Grow g.fr fr ∧ (fo == sysModules) = false ∧ (∀ p ∈ g.fr, p.1 ≠ fo) ∧ od.IsDictOf (PySem.intKind PySem.Challenge.rw_on0017_01.row.prog w) kvs ∧ kvs.length ≤ 40000 ∧ ∀ y, y ∈ kvs.map (·.1) ↔ y ∈ g.caps ∨ y ∈ g.outs ∨ y ∈ g.xs

end
--PART A23BlWalk
section
theorem Off.lt {a : Addr} {l : Led} (h : ∀ p ∈ l, p.1 < a) : Off a l := fun p m => .inr (Nat.ne_of_lt (h p m))
theorem Off.all {a : Addr} : ∀ {l : Led}, AllLt a l → Off a l
  | [], _ => fun _ m => nomatch m
  | p :: r, h => fun q m => by
    rcases List.mem_cons.mp m with rfl | m
    · exact .inr (Nat.ne_of_lt h.1)
    · exact Off.all h.2 q m
theorem ne_mem {a b : Addr} {o : Obj} {l : Led} (h : ∀ p ∈ l, p.1 < a) (m : (b, o) ∈ l) : @Ne Nat b a := Nat.ne_of_lt (h _ m)
theorem TypeLike.head {ws : List Value} (h : TypeLike ws) : ∃ x t r, ws = .str x t :: r := by
  cases h <;> exact ⟨_, _, _, rfl⟩
theorem Walk.ref_cases {l : Led} {v : Value} {xs : List Int} {n : Nat} (h : Walk l v xs n) (hv : ∃ a, v = .ref a) : ∃ a, v = .ref a ∧
    ((TupAt l a [] ∧ xs = [] ∧ n = 1) ∨ (∃ x t r, TupAt l a (.str x t :: r) ∧ TypeLike (.str x t :: r) ∧ xs = [] ∧ n = 1) ∨ (∃ v r k, TupAt l a (v :: r) ∧ isStrV v = false ∧ (plainV v = true ∨ ∃ b ws, v = .ref b ∧ TupAt l b ws) ∧ WalkAll l (v :: r) xs k ∧ n = k + 1) ∨
      ∃ x t r own ys k, TupAt l a (.str x t :: r) ∧ Own l x r own ∧ WalkAll l (.str x t :: r) ys k ∧ xs = own ++ ys ∧ n = k + 1) := by
  cases h with
  | flat h => obtain ⟨a, rfl⟩ := hv; cases h
  | empty h => exact ⟨_, rfl, .inl ⟨h, rfl, rfl⟩⟩
  | type h k =>
    obtain ⟨x, t, r, rfl⟩ := k.head
    exact ⟨_, rfl, .inr (.inl ⟨x, t, r, h, k, rfl, rfl⟩)⟩
  | seq h k r => exact ⟨_, rfl, .inr (.inr (.inl ⟨_, _, _, h, k, r.at (i := 0) rfl, r, rfl⟩))⟩
  | node h k r => exact ⟨_, rfl, .inr (.inr (.inr ⟨_, _, _, _, _, _, h, k, by simpa using WalkAll.cons (.flat rfl) r, rfl, rfl⟩))⟩
theorem be0 {K ys : List Int} {G : Int → Prop} (h : ∀ y, (y ∈ K ∨ y ∈ ys ++ []) ↔ G y) (y : Int) : (y ∈ K ∨ y ∈ ys) ↔ G y := by
  have := h y
  rwa [List.append_nil] at this
theorem be2 {K K2 ys own zs : List Int} {G : Int → Prop} (h : ∀ y, (y ∈ K ∨ y ∈ ys ++ (own ++ zs)) ↔ G y) (h2 : ∀ y, y ∈ K2 ↔ y ∈ K ∨ y ∈ own) (y : Int) : (y ∈ K2 ∨ y ∈ ys ++ zs) ↔ G y := by
  rw [← h y, h2 y]
  simp only [List.mem_append]
  constructor
  · rintro ((a | a) | (a | a))
    · exact .inl a
    · exact .inr (.inr (.inl a))
    · exact .inr (.inl a)
    · exact .inr (.inr (.inr a))
  · rintro (a | a | a | a)
    · exact .inl (.inl a)
    · exact .inr (.inl a)
    · exact .inl (.inr a)
    · exact .inr (.inr a)
/-- at the while's exit -/
theorem bl_keys {k0 k1 k2 k3 caps outs xs ys : List Int} (h1 : ∀ y, y ∈ k1 ↔ y ∈ k0 ∨ y ∈ caps) (h2 : ∀ y, y ∈ k2 ↔ y ∈ k1 ∨ y ∈ outs) (h3 : ∀ y, (y ∈ k3 ∨ y ∈ ys) ↔ (y ∈ k2 ∨ y ∈ xs)) (e0 : k0 = []) (e : ys = []) (y : Int) : y ∈ k3 ↔ y ∈ caps ∨ y ∈ outs ∨ y ∈ xs := by
  subst e0 e
  have a := h3 y
  simp only [List.not_mem_nil, or_false] at a
  rw [a, h2 y, h1 y]
  simp [or_assoc]
theorem bl_end {w : World} {h₀ h : Heap} {L : Addr} {m : Str → Option Value} {g : BlG} {fr' news : Led} {s : Shared} {Q : Value → Shared → Prop} {od : Obj} {kvs : List (Int × Value)} {tk : Nat} {fo : Addr}
    (hret : ∀ r news' h' tk', Fr h₀ L h' m → News h₀ L h' news' → blPost w g news' r → Q r { s with heap := h', toks := tk' })
    (hd : od.IsDictOf (PySem.intKind PySem.Challenge.rw_on0017_01.row.prog w) kvs) (F : Fr h₀ L h m) (N : News h₀ L h news) (hs : Pick (fo, od) news fr') (sb : Sub g.fr fr') (hlo : (fo == sysModules) = false) (hlt : ∀ p ∈ g.fr, p.1 < fo) (hl : kvs.length ≤ 40000) (hk : ∀ y, y ∈ kvs.map (·.1) ↔ y ∈ g.caps ∨ y ∈ g.outs ∨ y ∈ g.xs) :
    Q (.ref fo) { s with heap := h, toks := tk } := by
  refine hret _ ((fo, od) :: clean g.fr fr') _ _ F (fun p m => N p (hs.sub p ?_)) ⟨fo, od, kvs, _, rfl, rfl, Grow.clean, hlo, fun p hp => Nat.ne_of_lt (hlt p hp), hd, hl, hk⟩
  rcases List.mem_cons.mp m with rfl | m
  · exact .head _
  · exact .tail _ (sb.clean p m)
section
open PyProof.Rows.LCg
variable {w : World} {A : Around} {E : Value → Shared → Prop} {h₀ : Heap} {L : Addr} {m : Str → Option Value} {env : Env}
theorem parts_comp2 {P : Params} {elt ct iter : Expr} {x : Str} {px : Pos} {scope : Scope} {cl : List (Str × Addr)} {pos : Pos} {Q : Value → Shared → Prop} {s₁ : Shared} {a fo D : Addr} {od : Obj} {kvs : List (Int × Value)} {st : List Value} {q : Nat} {vs : List Value} {l news r₁ fr₀ : Led} {xs : List Int} {n : Nat}
    (hdd : od.IsDictOf (PySem.intKind PySem.Challenge.rw_on0017_01.row.prog w) kvs) (hr : allRefs st) (ht : TupAt l a vs) (hW : WalkAll l vs xs n) (X : (hd.heap_39 P).In h₀) (F : Fr h₀ L s₁.heap m) (N : News h₀ L s₁.heap news) (hs : Pick (fo, od) news r₁) (hs2 : Pick (D, listOf st.toArray q) r₁ fr₀) (off1 : Off fo fr₀) (off2 : Off D fr₀) (stt : SubT l fr₀) (hn : n ≤ 100000) (hh : A.handled = none)
    (hcell : ∀ y ∈ scope.names, y.2 ≠ .cell) (hkind : scope.kind = .function) (hx : scope.names.lookup x = some .local)
    (turnT : ∀ b ws C oC m₂ fr h tk (E' : Value → Shared → Prop), TupAt fr b ws → (C, oC) ∈ fr → NsObj oC m₂ → m₂ x = some (.ref b) → Fr h₀ L h m → News h₀ L h ((fo, od) :: (D, listOf st.toArray q) :: fr) →
      wpAny (model PySem.Challenge.rw_on0017_01.row.prog w) A (isTrue ct (compEnvC scope cl C env) (eval ct (compEnvC scope cl C env))) (fun ok s' => if ok = true then wpAny (model PySem.Challenge.rw_on0017_01.row.prog w) A (eval elt (compEnvC scope cl C env)) (PtEnd h₀ L m ((fo, od) :: (D, listOf st.toArray q) :: fr) { s₁ with heap := h, toks := tk } (.ref b)) E' s' else False) E' { s₁ with heap := h, toks := tk })
    (turnP : ∀ v C oC m₂ fr h tk (E' : Value → Shared → Prop), plainV v = true → (C, oC) ∈ fr → NsObj oC m₂ → m₂ x = some v → Fr h₀ L h m → News h₀ L h ((fo, od) :: (D, listOf st.toArray q) :: fr) →
      wpAny (model PySem.Challenge.rw_on0017_01.row.prog w) A (isTrue ct (compEnvC scope cl C env) (eval ct (compEnvC scope cl C env))) (fun ok s' => if ok = true then wpAny (model PySem.Challenge.rw_on0017_01.row.prog w) A (eval elt (compEnvC scope cl C env)) (fun _ _ => False) E' s' else PtEnd h₀ L m ((fo, od) :: (D, listOf st.toArray q) :: fr) { s₁ with heap := h, toks := tk } .none .none s') E' { s₁ with heap := h, toks := tk })
    (fin : ∀ B h tk fr', Grow fr₀ fr' → Off fo fr' → Off D fr' → @Ne Nat B fo → @Ne Nat B D → (vs.filter isRefV).length ≤ n → Fr h₀ L h m → News h₀ L h ((B, listOf (vs.filter isRefV).toArray (vs.filter isRefV).length) :: (fo, od) :: (D, listOf st.toArray q) :: fr') → Q (.ref B) { s₁ with heap := h, toks := tk }) :
    CSrc PySem.Challenge.rw_on0017_01.row.prog w A elt iter [ct] x px scope cl pos env none E Q (.ref a) s₁ :=
  parts_comp hW ht X F N hs hs2 off1 off2 stt hn hh hcell hkind hx turnT turnP fun B h tk fr' g o1 o2 n1 n2 F' N' => fin B h tk fr' g o1 o2 n1 n2 (hW.refs.len (refs_all vs)) F' N'
theorem PtEnd.intro {h : Heap} {fr : Led} {s₁ : Shared} {v : Value} {tk : Nat} (F : Fr h₀ L h m) (N : News h₀ L h fr) : PtEnd h₀ L m fr s₁ v v { s₁ with heap := h, toks := tk } := ⟨h, tk, rfl, rfl, F, N⟩
end

end
theorem ln30 : True := by
  k_with_none
  k_with "eval Name" => (k_here; (with_reducible show wpAny _ _ (eval (PySem.Expr.Name _ _) (envOf _ _ _ _ _)) _ _ _); name_kind "globalImplicit"; k_dflt ((with_reducible refine' name_K ?k0Qz ?k1Qz ?k2Qz ?k3Qz ?_ ?aQz ?bQz ?cQz); (case k0Qz => with_reducible assumption); (case k1Qz => with_reducible assumption); (case k2Qz => k_asm); (case k3Qz => k_is); (case aQz => exact rfl); (case bQz => kernel_rfl!); (case cQz => decide +kernel); k_whole))
  k_with "eval Name" => (k_here; (with_reducible show wpAny _ _ (eval (PySem.Expr.Name _ _) (envOf _ _ _ _ _)) _ _ _); name_kind "globalImplicit"; name_is_builtin; k_dflt ((with_reducible refine' name_B ?k0Qz ?k1Qz ?k2Qz ?k3Qz ?k4Qz ?k5Qz ?_ ?aQz ?bQz ?cQz); (case k0Qz => with_reducible assumption); (case k1Qz => with_reducible assumption); (case k2Qz => k_asm); (case k3Qz => k_is); (case k4Qz => boot_fast); (case k5Qz => decide +kernel); (case aQz => exact rfl); (case bQz => kernel_rfl!); (case cQz => decide +kernel); k_whole))
  k_with "eval Name" => (k_here; (with_reducible show wpAny _ _ (eval (PySem.Expr.Name _ _) (envOf _ _ _ _ _)) _ _ _); name_kind "local"; k_dflt ((with_reducible refine' ld ?k1Qz ?k2Qz ?_ ?aQz ?bQz ?cQz); (case k1Qz => with_reducible assumption); (case aQz => exact rfl); (case bQz => kernel_rfl!); (case cQz => decide +kernel); (case k2Qz => exact rfl); k_whole))
  k_with "eval Name" => (k_here; (with_reducible show wpAny _ _ (eval (PySem.Expr.Name _ _) (envOfC _ _ _ _ _)) _ _ _); k_dflt first | (name_kind "local"; (with_reducible refine' nameC_L ?FQz ?vQz ?_ ?aQz ?bQz ?cQz); (case FQz => with_reducible assumption); (case aQz => exact rfl); (case bQz => kernel_rfl!); (case cQz => decide +kernel); (case vQz => first | exact rfl | assumption); k_whole) | (name_kind "cell"; (with_reducible refine' nameC_C ?NQz ?kQz ?mQz ?dQz ?_ ?aQz ?bQz ?cQz); (case aQz => exact rfl); (case bQz => kernel_rfl!); (case cQz => decide +kernel); (case NQz => with_reducible assumption); (case kQz => exact rfl); (case mQz => k_mem); (case dQz => k_asm); k_whole) | (name_kind "globalImplicit"; name_is_builtin; (with_reducible refine' nameC_B ?FQz ?XQz ?TQz ?eQz ?vQz ?nQz ?_ ?aQz ?bQz ?cQz); (case FQz => with_reducible assumption); (case XQz => with_reducible assumption); (case TQz => k_asm); (case aQz => exact rfl); (case bQz => kernel_rfl!); (case cQz => decide +kernel); (case eQz => k_is); (case vQz => boot_fast); (case nQz => decide +kernel); k_whole) | (name_kind "globalImplicit"; (with_reducible refine' nameC_K ?FQz ?XQz ?TQz ?eQz ?_ ?aQz ?bQz ?cQz); (case FQz => with_reducible assumption); (case XQz => with_reducible assumption); (case TQz => k_asm); (case aQz => exact rfl); (case bQz => kernel_rfl!); (case cQz => decide +kernel); (case eQz => k_is); k_whole))
  k_with "eval Name" => (k_here; (with_reducible show wpAny _ _ (eval (PySem.Expr.Name _ _) (compEnvC _ _ _ _)) _ _ _); k_dflt first | (name_kind "local"; (with_reducible refine' LCgL.ld_own ?NQz ?mQz ?CQz ?xQz ?_ ?aQz ?bQz ?cQz); (case NQz => with_reducible assumption); (case mQz => k_mem); (case CQz => with_reducible assumption); (case xQz => assumption); (case aQz => exact rfl); (case bQz => kernel_rfl!); (case cQz => decide +kernel); k_whole) | (name_kind "globalImplicit"; name_is_builtin; (with_reducible refine' LCgL.ld_built ?FQz ?XQz ?TQz ?eQz ?vQz ?nQz ?_ ?gQz ?hQz ?aQz ?bQz ?cQz); (case FQz => with_reducible assumption); (case XQz => with_reducible assumption); (case TQz => with_reducible assumption); (case gQz => exact rfl); (case hQz => exact rfl); (case aQz => exact rfl); (case bQz => kernel_rfl!); (case cQz => decide +kernel); (case eQz => k_is); (case vQz => boot_fast); (case nQz => decide +kernel); k_whole) | (name_kind "globalImplicit"; (with_reducible refine' LCgL.ld_global ?FQz ?XQz ?TQz ?eQz ?_ ?gQz ?aQz ?bQz ?cQz); (case FQz => with_reducible assumption); (case XQz => with_reducible assumption); (case TQz => with_reducible assumption); (case gQz => exact rfl); (case aQz => exact rfl); (case bQz => kernel_rfl!); (case cQz => decide +kernel); (case eQz => k_is); k_whole) | (name_kind "free"; (with_reducible refine' lcf_free ?NQz ?kQz ?mQz ?dQz ?_ ?aQz ?bQz ?cQz ?eQz); (case aQz => exact rfl); (case bQz => kernel_rfl!); (case cQz => decide +kernel); (case eQz => decide +kernel); (case NQz => with_reducible assumption); (case kQz => exact rfl); (case mQz => k_mem); (case dQz => k_asm); k_whole))
  k_with "newTuple" => (k_here; k_dflt ((with_reducible refine' kup_newTuple ?FQz ?NQz ?_ ?zQz); (case FQz => with_reducible assumption); (case NQz => with_reducible assumption); (case zQz => first | exact Nat.le_of_ble_eq_true rfl | kmk_size)); intro D'e5 h'e5 F'e5 N'e5 l1e5; (try k_sweep))
  k_with "newList" => (k_here; k_dflt ((with_reducible refine' newList_K ?FQz ?NQz ?_ ?zQz); (case FQz => with_reducible assumption); (case NQz => with_reducible assumption); (case zQz => first | exact Nat.le_of_ble_eq_true rfl | size_fits)); intro D'e6 h'e6 F'e6 N'e6 l1e6; (try k_sweep))
  k_with "And" => ((with_reducible show Frag.In _ _ ∧ _); refine' And.intro ?kQz ?_; (case kQz => k_dflt (first | with_reducible assumption | (refine' Frag.In.keeps ?xQz (Fr.keep ?fQz); (case fQz => with_reducible assumption); (case xQz => with_reducible assumption)) | k_in)); (try dsimp only [List.nil_append, List.cons_append]))
  k_with "execs cons" => (k_here; (try k_gentoks); (with_reducible refine' wpAny_execs_cons ?_); (try dsimp only); (try k_fold))
  k_with "ite" => (k_closed; first | (with_reducible refine' ite_tt ?_) | (with_reducible refine' ite_ff ?_) | ((with_reducible refine' ite_neg ?hQz ?_); (case hQz => decide +kernel)) | ((with_reducible refine' ite_pos ?hQz ?_); (case hQz => decide +kernel)))
  k_with "spliced" => k_dflt ((first | (with_reducible refine' args_cons (env := envOf _ _ _ _ _) ?_ ?heQz) | (with_reducible refine' args_cons (env := envOfC _ _ _ _ _) ?_ ?heQz)); (case heQz => exact rfl))
  k_with "eval Call" => k_dflt ((first | (with_reducible refine' Call_ (env := envOf _ _ _ _ _) ?_ ?heQz) | (with_reducible refine' Call_ (env := envOfC _ _ _ _ _) ?_ ?heQz)); (case heQz => exact rfl))
  k_with "exec Assign" => k_dflt ((first | (with_reducible refine' wpAny_Assign_Name (env := envOf _ _ _ _ _) ?_ ?heQz) | (with_reducible refine' wpAny_Assign_Name (env := envOfC _ _ _ _ _) ?_ ?heQz)); (case heQz => exact rfl); (try k_fold))
  k_with "callWith ref" => (k_here; k_dflt first | ((with_reducible refine' callWith_K ?k1Qz ?k2Qz ?_ ?heQz ?hpQz); (case k1Qz => with_reducible assumption); (case k2Qz => k_is); (case heQz => exact rfl); (case hpQz => exact rfl); k_whole) | ((with_reducible refine' callWith_K0 ?k1Qz ?k2Qz ?_); (case k1Qz => (first | with_reducible assumption | (refine' Frag.In.keeps ?xQz (Fr.keep ?fQz); (case fQz => with_reducible assumption); (case xQz => with_reducible assumption)) | k_in)); (case k2Qz => k_is); k_whole))
  k_with "storeName" => (k_here; k_dflt first | ((with_reducible refine' stN ?FQz ?NQz ?_ ?aQz ?bQz); (case FQz => with_reducible assumption); (case NQz => with_reducible assumption); (case aQz => exact rfl); (case bQz => kernel_rfl!); k_whole; intro h'e14 F'e14 N'e14; (try k_sweep)) | (name_kind "local"; (with_reducible refine' storeC_L ?FQz ?NQz ?_ ?aQz ?bQz); (case FQz => with_reducible assumption); (case NQz => with_reducible assumption); (case aQz => exact rfl); (case bQz => kernel_rfl!); k_whole; intro h'e14 F'e14 N'e14; (try k_sweep)))
  k_with "mine room" => first | exact Nat.le_of_ble_eq_true rfl | ((try simp only [recursionLimit]); (try dsimp only [Around.deeper, Around.in1, Around.mark, rnd]); first | exact room_le (by with_reducible assumption) rfl | omega) | fail "mine"
  k_with "mine enter" => (refine wpAny_call ?_; k_dflt ((with_reducible refine' code_def ?k1Qz ?k2Qz ?k3Qz ?k4Qz ?k5Qz ?kAQz ?kFQz ?kKQz ?k6Qz ?k7Qz ?k8Qz ?k9Qz ?kBQz ?_ ?c2Qz ?c3Qz ?c4Qz ?c5Qz); (case kAQz => exact rfl); (case kFQz => assumption); (case kKQz => assumption); (case k1Qz => k_asm); (case k2Qz => k_asm); (case k3Qz => k_asm); (case k4Qz => k_asm); (case k5Qz => k_asm); (case k6Qz => k_is); (case k7Qz => k_is); (case k8Qz => ktr_room); (case k9Qz => exact BindsTo.of_eq rfl); (case c5Qz => decide); (case kBQz => exact locs rfl); (case c2Qz => exact rfl); (case c3Qz => exact rfl); (case c4Qz => exact rfl); k_whole; intro g'e16 L'e16 h'e16 FG'e16 F'e16 N'e16 B'e16 X'e16 T'e16; (try dsimp only); (try k_fold)))
  k_with "mine pick" => first | exact Pick.head | (refine' Pick.tail ?pkQz; (case pkQz => k_extra "mine pick")) | fail "mine"
  k_with "mine mem" => first | with_reducible assumption | exact mem_hd | (refine' mem_tl ?pmQz; (case pmQz => k_extra "mine mem")) | (refine' Sub.mem ?pgQz ?pmQz; (case pgQz => with_reducible assumption); (case pmQz => k_extra "mine mem")) | (refine' Grow.mem ?pgQz ?pmQz; (case pgQz => with_reducible assumption); (case pmQz => k_extra "mine mem")) | fail "mine"
  k_with "mine at" => first | (with_reducible exact at_hd) | ((with_reducible refine' at_tl ?pmQz); (case pmQz => k_extra "mine at")) | fail "mine"
  k_with "mine pj" => first | with_reducible assumption | exact pj_l (by with_reducible assumption) | exact pj_l (pj_r (by with_reducible assumption)) | exact pj_r (by with_reducible assumption) | exact pj_l (pj_2 (by with_reducible assumption)) | exact pj_2 (by with_reducible assumption) | exact pj_l (pj_2 (pj_r (by with_reducible assumption))) | exact pj_2 (pj_r (by with_reducible assumption)) | exact pj_l (pj_4 (by with_reducible assumption)) | exact pj_4 (by with_reducible assumption) | exact pj_l (pj_4 (pj_r (by with_reducible assumption))) | exact pj_4 (pj_r (by with_reducible assumption)) | exact pj_l (pj_4 (pj_2 (by with_reducible assumption))) | exact pj_4 (pj_2 (by with_reducible assumption)) | exact pj_l (pj_4 (pj_2 (pj_r (by with_reducible assumption)))) | exact pj_4 (pj_2 (pj_r (by with_reducible assumption))) | exact pj_l (pj_8 (by with_reducible assumption)) | exact pj_8 (by with_reducible assumption) | exact pj_l (pj_8 (pj_r (by with_reducible assumption))) | exact pj_8 (pj_r (by with_reducible assumption)) | exact pj_l (pj_8 (pj_2 (by with_reducible assumption))) | exact pj_8 (pj_2 (by with_reducible assumption)) | exact pj_l (pj_8 (pj_2 (pj_r (by with_reducible assumption)))) | exact pj_8 (pj_2 (pj_r (by with_reducible assumption))) | exact pj_l (pj_8 (pj_4 (by with_reducible assumption))) | exact pj_8 (pj_4 (by with_reducible assumption)) | exact pj_l (pj_8 (pj_4 (pj_r (by with_reducible assumption)))) | exact pj_8 (pj_4 (pj_r (by with_reducible assumption))) | exact pj_l (pj_8 (pj_4 (pj_2 (by with_reducible assumption)))) | exact pj_8 (pj_4 (pj_2 (by with_reducible assumption))) | exact pj_l (pj_8 (pj_4 (pj_2 (pj_r (by with_reducible assumption))))) | exact pj_8 (pj_4 (pj_2 (pj_r (by with_reducible assumption)))) | exact pj_l (pj_16 (by with_reducible assumption)) | exact pj_16 (by with_reducible assumption) | exact pj_l (pj_16 (pj_r (by with_reducible assumption))) | exact pj_16 (pj_r (by with_reducible assumption)) | exact pj_l (pj_16 (pj_2 (by with_reducible assumption))) | exact pj_16 (pj_2 (by with_reducible assumption)) | exact pj_l (pj_16 (pj_2 (pj_r (by with_reducible assumption)))) | exact pj_16 (pj_2 (pj_r (by with_reducible assumption))) | exact pj_l (pj_16 (pj_4 (by with_reducible assumption))) | exact pj_16 (pj_4 (by with_reducible assumption)) | exact pj_l (pj_16 (pj_4 (pj_r (by with_reducible assumption)))) | exact pj_16 (pj_4 (pj_r (by with_reducible assumption))) | exact pj_l (pj_16 (pj_4 (pj_2 (by with_reducible assumption)))) | exact pj_16 (pj_4 (pj_2 (by with_reducible assumption))) | exact pj_l (pj_16 (pj_4 (pj_2 (pj_r (by with_reducible assumption))))) | exact pj_16 (pj_4 (pj_2 (pj_r (by with_reducible assumption)))) | exact pj_l (pj_16 (pj_8 (by with_reducible assumption))) | exact pj_16 (pj_8 (by with_reducible assumption)) | exact pj_l (pj_16 (pj_8 (pj_r (by with_reducible assumption)))) | exact pj_16 (pj_8 (pj_r (by with_reducible assumption))) | exact pj_l (pj_16 (pj_8 (pj_2 (by with_reducible assumption)))) | exact pj_16 (pj_8 (pj_2 (by with_reducible assumption))) | exact pj_l (pj_16 (pj_8 (pj_2 (pj_r (by with_reducible assumption))))) | exact pj_16 (pj_8 (pj_2 (pj_r (by with_reducible assumption)))) | exact pj_l (pj_16 (pj_8 (pj_4 (by with_reducible assumption)))) | exact pj_16 (pj_8 (pj_4 (by with_reducible assumption))) | exact pj_l (pj_16 (pj_8 (pj_4 (pj_r (by with_reducible assumption))))) | exact pj_16 (pj_8 (pj_4 (pj_r (by with_reducible assumption)))) | exact pj_l (pj_16 (pj_8 (pj_4 (pj_2 (by with_reducible assumption))))) | exact pj_16 (pj_8 (pj_4 (pj_2 (by with_reducible assumption)))) | exact pj_l (pj_16 (pj_8 (pj_4 (pj_2 (pj_r (by with_reducible assumption)))))) | exact pj_16 (pj_8 (pj_4 (pj_2 (pj_r (by with_reducible assumption))))) | fail "mine"
  k_with "mine new" => first | ((with_reducible refine' ne_new ?hQz ?mQz); (case hQz => with_reducible assumption); (case mQz => k_extra "mine at")) | ((with_reducible refine' ne_new' ?hQz ?mQz); (case hQz => with_reducible assumption); (case mQz => k_extra "mine at")) | ((with_reducible refine' Nat.ne_of_lt ?hQz); (case hQz => k_extra "mine pj")) | ((with_reducible refine' Nat.ne_of_gt ?hQz); (case hQz => k_extra "mine pj")) | fail "mine"
  k_with "mine ne" => first | assumption | (refine Ne.symm ?_; assumption) | k_extra "mine new" | (refine neN ?_; (try dsimp only); first | k_extra "mine new" | omega) | fail "mine"
  k_with "mine off" => first | with_reducible assumption | exact Off.nil | (refine Off.tup ?_; k_extra "mine off") | (refine Off.ne ?_ ?_; (k_extra "mine ne"); (k_extra "mine off")) | fail "mine"
  k_with "mine sub" => first | with_reducible assumption | exact Sub.refl | (refine Sub.tl ?_; k_extra "mine sub") | (refine' Sub.gr ?pgQz ?pkQz; (case pgQz => with_reducible assumption); (case pkQz => k_extra "mine sub")) | fail "mine"
  k_with "call ref" => (k_here; (with_reducible show wpAny _ _ (call (Value.ref 220) [Value.ref _, Value.int _ _]) _ _ _); k_dflt ((with_reducible refine' take_use ?k1Qz ?k2Qz ?k3Qz ?k4Qz ?k5Qz ?a3Qz ?hfQz ?hkQz ?a1Qz ?a2Qz ?a4Qz ?hsQz ?hoQz ?htQz ?offQz ?_); (case k1Qz => k_asm); (case k2Qz => k_asm); (case k3Qz => k_asm); (case k4Qz => k_asm); (case k5Qz => k_asm); (case a3Qz => exact rfl); (case hfQz => exact rfl); (case hkQz => exact rfl); (case a1Qz => exact rfl); (case a2Qz => k_extra "mine room"); (case a4Qz => k_extra "mine room"); (case hoQz => assumption); (case hsQz => k_extra "mine pick"); (case htQz => exact ⟨by decide, by decide⟩); (case offQz => k_extra "mine off")); intro d'e34 td'e34 o'e34 h'e34 tk'e34 hd0e34 hd1e34 ho'e34 F'e34 N'e34; (try dsimp only); (try k_sweep); (try k_fold))
  k_with "mine subt" => first | exact SubT.refl | with_reducible assumption | (refine' SubT.tl ?pkQz; (case pkQz => k_extra "mine subt")) | (refine' SubT.gr ?pgQz ?pkQz; (case pgQz => with_reducible assumption); (case pkQz => k_extra "mine subt")) | (refine' SubT.sb ?pgQz ?pkQz; (case pgQz => with_reducible assumption); (case pkQz => k_extra "mine subt")) | fail "mine"
  k_with "subscriptTail" => (k_here; (with_reducible show wpAny _ _ (subscriptTail _ _ (Value.ref _) (Value.int _ _)) _ _ _); k_dflt ((first | with_reducible refine' tupAt_item ?htQz ?XQz ?FQz ?NQz ?stQz ?k3Qz ?k4Qz ?k5Qz ?k6Qz ?_ ?k7Qz | refine' tupAt_item ?htQz ?XQz ?FQz ?NQz ?stQz ?k3Qz ?k4Qz ?k5Qz ?k6Qz ?_ ?k7Qz); (case htQz => with_reducible assumption); (case XQz => k_asm); (case FQz => k_asm); (case NQz => k_asm); (case stQz => k_extra "mine subt"); (case k3Qz => decide); (case k4Qz => decide); (case k5Qz => exact rfl); (case k6Qz => exact rfl); (case k7Qz => with_unfolding_all rfl)); (try dsimp only); (try k_fold))
  k_with "subscriptTail Name Constant ref int" => (k_here; (with_reducible show wpAny _ _ (subscriptTail _ _ (Value.ref _) (Value.int _ _)) _ _ _); k_dflt ((first | with_reducible refine' tupAt_item ?htQz ?XQz ?FQz ?NQz ?stQz ?k3Qz ?k4Qz ?k5Qz ?k6Qz ?_ ?k7Qz | refine' tupAt_item ?htQz ?XQz ?FQz ?NQz ?stQz ?k3Qz ?k4Qz ?k5Qz ?k6Qz ?_ ?k7Qz); (case htQz => with_reducible assumption); (case XQz => k_asm); (case FQz => k_asm); (case NQz => k_asm); (case stQz => k_extra "mine subt"); (case k3Qz => decide); (case k4Qz => decide); (case k5Qz => exact rfl); (case k6Qz => exact rfl); (case k7Qz => with_unfolding_all rfl)); (try dsimp only); (try k_fold))
  k_with "subscriptTail" => (k_here; (with_reducible show wpAny _ _ (subscriptTail _ _ (Value.ref _) (Value.int 0 _)) _ _ _); k_dflt ((first | with_reducible refine' tupAt_head ?htQz ?XQz ?FQz ?NQz ?stQz ?_ ?k7Qz | refine' tupAt_head ?htQz ?XQz ?FQz ?NQz ?stQz ?_ ?k7Qz); (case htQz => with_reducible assumption); (case XQz => k_asm); (case FQz => k_asm); (case NQz => k_asm); (case stQz => k_extra "mine subt"); (case k7Qz => with_unfolding_all rfl)); (try dsimp only); (try k_fold))
  k_with "subscriptTail Name Constant ref int" => (k_here; (with_reducible show wpAny _ _ (subscriptTail _ _ (Value.ref _) (Value.int 0 _)) _ _ _); k_dflt ((first | with_reducible refine' tupAt_head ?htQz ?XQz ?FQz ?NQz ?stQz ?_ ?k7Qz | refine' tupAt_head ?htQz ?XQz ?FQz ?NQz ?stQz ?_ ?k7Qz); (case htQz => with_reducible assumption); (case XQz => k_asm); (case FQz => k_asm); (case NQz => k_asm); (case stQz => k_extra "mine subt"); (case k7Qz => with_unfolding_all rfl)); (try dsimp only); (try k_fold))
  k_with "compareOp Eq str str" => (k_here; (with_reducible show wpAny _ _ (compareOp CmpOp.Eq (Value.str _ _) (Value.str _ _)) _ _ _); k_dflt ((first | with_reducible refine' str_ne ?hnQz ?_ | refine' str_ne ?hnQz ?_); (case hnQz => with_reducible assumption)))
  k_with "compareOp NotEq str str" => (k_here; (with_reducible show wpAny _ _ (compareOp CmpOp.NotEq (Value.str _ _) (Value.str _ _)) _ _ _); k_dflt ((first | with_reducible refine' str_ne' ?hnQz ?_ | refine' str_ne' ?hnQz ?_); (case hnQz => with_reducible assumption)))
  k_with "call ref" => (k_here; (with_reducible show wpAny _ _ (call (Value.ref 28) [Value.ref _, _]) _ _ _); k_dflt ((first | with_reducible refine' under_use ?k1Qz ?k2Qz ?k3Qz ?k4Qz ?k5Qz ?a3Qz ?hfQz ?hkQz ?a1Qz ?a2Qz ?a4Qz ?hWQz ?hTQz ?sbQz ?_ | refine' under_use ?k1Qz ?k2Qz ?k3Qz ?k4Qz ?k5Qz ?a3Qz ?hfQz ?hkQz ?a1Qz ?a2Qz ?a4Qz ?hWQz ?hTQz ?sbQz ?_); (case k2Qz => k_asm); (case k1Qz => k_asm); (case k3Qz => k_asm); (case k4Qz => k_asm); (case k5Qz => k_asm); (case a3Qz => exact rfl); (case hfQz => first | exact rfl | assumption); (case hkQz => first | exact rfl | assumption); (case a1Qz => exact rfl); (case a2Qz => k_extra "mine room"); (case a4Qz => k_extra "mine room"); (case hWQz => with_reducible assumption); (case hTQz => with_reducible assumption); (case sbQz => k_extra "mine sub")); intro a'e103 x'e103 t'e103 vs'e103 h'e103 tk'e103 hat'e103 hah'e103 F'e103 N'e103; (try dsimp only); (try k_sweep); (rcases ArrHead.split hah'e103 with ⟨hia'e103, hxa'e103⟩ | ⟨hia'e103, hxa'e103⟩ <;> clear hah'e103); (subst hxa'e103); all_goals (try k_fold))
  k_with "call ref" => (k_here; (with_reducible show wpAny _ _ (call (Value.ref 35) [_, Value.ref _]) _ _ _); k_dflt ((first | with_reducible refine' root_use ?k1Qz ?k2Qz ?k3Qz ?k4Qz ?k5Qz ?a3Qz ?hfQz ?hkQz ?a1Qz ?a2Qz ?a4Qz ?hPQz ?hWQz ?sbQz ?_ | refine' root_use ?k1Qz ?k2Qz ?k3Qz ?k4Qz ?k5Qz ?a3Qz ?hfQz ?hkQz ?a1Qz ?a2Qz ?a4Qz ?hPQz ?hWQz ?sbQz ?_); (case k2Qz => k_asm); (case k1Qz => k_asm); (case k3Qz => k_asm); (case k4Qz => k_asm); (case k5Qz => k_asm); (case a3Qz => exact rfl); (case hfQz => first | exact rfl | assumption); (case hkQz => first | exact rfl | assumption); (case a1Qz => exact rfl); (case a2Qz => k_extra "mine room"); (case a4Qz => k_extra "mine room"); (case hPQz => with_reducible assumption); (case hWQz => with_reducible assumption); (case sbQz => k_extra "mine sub")); intro v'e108 h'e108 tk'e108 hR'e108 F'e108 N'e108; (try dsimp only); (try k_sweep); (rename Option Nat => r9e108; cases r9e108 <;> (dsimp only [RootV] at hR'e108) <;> (first | subst hR'e108 | (obtain ⟨rt'e108, hR'e108⟩ := hR'e108; subst hR'e108))); all_goals (try k_fold))
  k_with "mine sub" => first | with_reducible assumption | exact Sub.refl | (refine' Sub.tl ?pkQz; (case pkQz => k_extra "mine sub")) | (refine' Sub.gr ?pgQz ?pkQz; (case pgQz => with_reducible assumption); (case pkQz => k_extra "mine sub")) | (refine' Sub.by' ?pgQz ?pkQz; (case pgQz => with_reducible assumption); (case pkQz => k_extra "mine sub")) | fail "mine"
  k_with "call builtin:len" => (k_here; (with_reducible show wpAny _ _ (call (Value.builtin "len") [Value.ref _]) _ _ _); k_dflt (first | (refine' tupAt_lenN 4 ?htQz ?hnQz ?XQz ?FQz ?NQz ?stQz ?zQz ?_; (case htQz => with_reducible assumption); (case hnQz => exact rfl); (case XQz => k_asm); (case FQz => k_asm); (case NQz => k_asm); (case stQz => k_extra "mine subt"); (case zQz => exact Nat.le_of_ble_eq_true rfl)) | (refine' tupAt_lenN 5 ?htQz ?hnQz ?XQz ?FQz ?NQz ?stQz ?zQz ?_; (case htQz => with_reducible assumption); (case hnQz => exact rfl); (case XQz => k_asm); (case FQz => k_asm); (case NQz => k_asm); (case stQz => k_extra "mine subt"); (case zQz => exact Nat.le_of_ble_eq_true rfl)) | (refine' tupAt_lenN 7 ?htQz ?hnQz ?XQz ?FQz ?NQz ?stQz ?zQz ?_; (case htQz => with_reducible assumption); (case hnQz => exact rfl); (case XQz => k_asm); (case FQz => k_asm); (case NQz => k_asm); (case stQz => k_extra "mine subt"); (case zQz => exact Nat.le_of_ble_eq_true rfl)) | fail "len"); (try dsimp only); (try k_fold))
  k_with "compareOp Eq str str" => (k_here; (with_reducible show wpAny _ _ (compareOp CmpOp.Eq (Value.str _ _) (Value.str _ _)) _ _ _); k_dflt ((first | with_reducible refine' str_plain ?hpQz ?hnQz ?_ | refine' str_plain ?hpQz ?hnQz ?_); (case hpQz => with_reducible assumption); (case hnQz => decide +kernel)); (try k_fold))
  k_with "call ref" => (k_here; (with_reducible show wpAny _ _ (call (Value.ref 42) [_]) _ _ _); k_dflt ((first | with_reducible refine' ispart_use ?k1Qz ?k2Qz ?k3Qz ?k4Qz ?k5Qz ?a3Qz ?hfQz ?hkQz ?a1Qz ?a2Qz ?a4Qz ?hPQz ?sbQz ?_ ?_ | refine' ispart_use ?k1Qz ?k2Qz ?k3Qz ?k4Qz ?k5Qz ?a3Qz ?hfQz ?hkQz ?a1Qz ?a2Qz ?a4Qz ?hPQz ?sbQz ?_ ?_); (case hPQz => with_reducible assumption); (case k2Qz => k_asm); (case k1Qz => k_asm); (case k3Qz => k_asm); (case k4Qz => k_asm); (case k5Qz => k_asm); (case a3Qz => exact rfl); (case hfQz => first | exact rfl | assumption); (case hkQz => first | exact rfl | assumption); (case a1Qz => exact rfl); (case a2Qz => k_extra "mine room"); (case a4Qz => k_extra "mine room"); (case sbQz => k_extra "mine sub")); all_goals (intro h'e118 tk'e118 hb'e118 F'e118 N'e118; (try dsimp only); (try k_sweep); (try k_fold)))
  k_with "setItem ref int" => (k_here; (rename Obj.IsDictOf _ _ _ => hd9e119); k_dflt ((first | with_reducible refine' found_set hd9e119 ?hlQz ?FQz ?NQz ?hsQz ?offQz ?_ | refine' found_set hd9e119 ?hlQz ?FQz ?NQz ?hsQz ?offQz ?_); (case hlQz => first | omega | (refine Nat.le_trans stored_len ?_; omega)); (case FQz => k_asm); (case NQz => k_asm); (case hsQz => k_extra "mine pick"); (case offQz => k_extra "mine off")); intro h'e119 od'e119 hd'e119 F'e119 N'e119; (try dsimp only); (try k_sweep); (try k_fold))
  k_with "call builtin:isinstance" => (k_here; (with_reducible show wpAny _ _ (call (Value.builtin "isinstance") [Value.ref _, Value.type "tuple"]) _ _ _); k_dflt ((first | with_reducible refine' isi_tup ?htQz ?XQz ?FQz ?NQz ?stQz ?_ | refine' isi_tup ?htQz ?XQz ?FQz ?NQz ?stQz ?_); (case htQz => with_reducible assumption); (case XQz => k_asm); (case FQz => k_asm); (case NQz => k_asm); (case stQz => k_extra "mine subt")); (try dsimp only); (try k_fold))
  exact True.intro
--PART A24BlMac
section
local macro_rules | `(tactic| k_all) => `(tactic| assumption)
local macro_rules | `(tactic| k_mem) => `(tactic| k_extra "mine mem")
section
theorem ln31 : True := by
  k_with "mine off" => first | with_reducible assumption | exact Off.nil | (refine Off.tup ?_; k_extra "mine off") | (refine Off.ne ?_ ?_; (k_extra "mine ne"); (k_extra "mine off")) | exact Off.lt (by assumption) | exact Off.all (And.right (by assumption)) | exact Off.all (And.right (And.right (by assumption))) | exact Off.all (And.right (And.right (And.right (by assumption)))) | (refine Off.grow ?_ ?_; rotate_left; (with_reducible assumption); (k_extra "mine off")) | fail "mine"
  k_with "getAttr ref" => (k_here; k_dflt ((first | with_reducible refine' get_own ?k1Qz ?k2Qz ?k3Qz ?k4Qz ?k5Qz ?k6Qz ?k7Qz ?k8Qz ?k9Qz ?_ | refine' get_own ?k1Qz ?k2Qz ?k3Qz ?k4Qz ?k5Qz ?k6Qz ?k7Qz ?k8Qz ?k9Qz ?_); (case k1Qz => k_asm); (case k2Qz => k_asm); (case k3Qz => (refine' InstAt.of_news ?NQz ?h1Qz ?h2Qz; (case NQz => k_asm); (case h1Qz => k_extra "mine mem"); (case h2Qz => k_extra "mine mem"))); (case k4Qz => k_is); (case k5Qz => k_is); (case k6Qz => k_is); (case k7Qz => k_is); (case k8Qz => with_reducible assumption); (case k9Qz => exact rfl); k_whole); (try k_fold))
  k_with "call type:list" => (k_here; (with_reducible show wpAny _ _ (call (Value.type _) [Value.ref _]) _ _ _); k_dflt ((first | with_reducible refine' kup_listOfT ?FQz ?NQz ?bQz ?eQz ?_ ?zQz | refine' kup_listOfT ?FQz ?NQz ?bQz ?eQz ?_ ?zQz); (case FQz => k_asm); (case NQz => k_asm); (case bQz => k_extra "mine mem"); (case eQz => exact rfl); (case zQz => (rename WalkAll _ _ _ _ => w9e126; rename allRefs _ => r9e126; have l9e126 := w9e126.len r9e126; rw [sizeLine_eq]; dsimp only at l9e126 ⊢; omega))); intro D'e126 c'e126 h'e126 F'e126 N'e126 l1e126; (try dsimp only at N'e126); (try (have l1be126 := l1e126; replace l1e126 := allLt_of l1e126; dsimp only [AllLt] at l1e126)); (try k_sweep))
  k_with "exec For" => (k_here; (with_reducible show wpAny _ _ (exec (PySem.Stmt.For (PySem.Expr.Tuple _ _ _) (PySem.Expr.Attribute _ _ _) _ [] _) _) _ _ _); (rename Fr _ _ _ _ => lF'e127); (with_unfolding_all refine' For_turns lF'e127 ?_); k_whole)
  k_with "pyIter ref" => (k_here; (with_reducible show wpAny _ _ (pyIter (Value.ref _)) (fun it s₂ => TurnsAt _ _ _ _ _ _ _ _ _ it s₂) _ _); (first | (k_dflt ((first | with_reducible refine' loop_one0 ?hmQz ?hhQz ?FQz ?NQz ?_ | refine' loop_one0 ?hmQz ?hhQz ?FQz ?NQz ?_); (case FQz => k_asm); (case NQz => k_asm); (case hmQz => k_extra "mine mem"); (case hhQz => rfl)); intro h'e128 tk'e128 F'e128 N'e128; (try dsimp only); (try k_sweep)) | (k_dflt ((first | with_reducible refine' loop_one ?hmQz ?hhQz ?FQz ?NQz ?_ | refine' loop_one ?hmQz ?hhQz ?FQz ?NQz ?_); (case FQz => k_asm); (case NQz => k_asm); (case hmQz => k_extra "mine mem"); (case hhQz => rfl)); intro I'e128 oI'e128 h'e128 tk'e128 hlt'e128 hoI'e128 F'e128 N'e128; have l1e128 := hlt'e128; (try (have l1be128 := l1e128; replace l1e128 := allLt_of l1e128; dsimp only [AllLt] at l1e128)); (try dsimp only); (try k_sweep))))
  k_with "assign Tuple" => (k_here; (with_reducible show wpAny _ _ (assign (PySem.Expr.Tuple _ _ _) _ (Value.ref _)) _ _ _); k_dflt ((first | with_reducible refine' unpackN_ ?FQz ?NQz ?TQz ?k1Qz ?k2Qz ?k3Qz ?_ | refine' unpackN_ ?FQz ?NQz ?TQz ?k1Qz ?k2Qz ?k3Qz ?_); (case FQz => k_asm); (case NQz => k_asm); (case TQz => (refine' News.isTup ?n1Qz ?n2Qz; (case n1Qz => k_asm); (case n2Qz => k_extra "mine mem"))); (case k1Qz => exact rfl); (case k2Qz => exact rfl); (case k3Qz => exact rfl)); intro h'e129 F'e129 N'e129; (try k_sweep))
  k_with "OnePost" => (k_here; k_dflt ((first | with_reducible refine' one_end ?hoQz ?FQz ?NQz ?hsQz ?hcQz ?offQz ?_ | refine' one_end ?hoQz ?FQz ?NQz ?hsQz ?hcQz ?offQz ?_); (case hoQz => with_reducible assumption); (case FQz => k_asm); (case NQz => k_asm); (case hsQz => k_extra "mine pick"); (case hcQz => k_extra "mine mem"); (case offQz => k_extra "mine off")); intro h'e130 tk'e130 F'e130 N'e130; (try dsimp only); (try k_sweep))
  k_with "setItem ref int" => (k_here; (rename Obj.IsDictOf _ _ _ => hd9e131); k_dflt ((first | with_reducible refine' found_set hd9e131 ?hlQz ?FQz ?NQz ?hsQz ?offQz ?_ | refine' found_set hd9e131 ?hlQz ?FQz ?NQz ?hsQz ?offQz ?_); (case hlQz => (have z9e131 : ([] : List (Int × Value)).length = 0 := rfl; first | omega | (refine Nat.le_trans stored_len ?_; omega))); (case FQz => k_asm); (case NQz => k_asm); (case hsQz => k_extra "mine pick"); (case offQz => k_extra "mine off")); intro h'e131 od'e131 hd'e131 F'e131 N'e131; (try dsimp only); (try k_sweep); (try k_fold))
  k_with "exec For" => (k_here; (with_reducible show wpAny _ _ (exec (PySem.Stmt.For (PySem.Expr.Tuple _ _ _) _ _ _ _) _) _ _ _); (with_reducible rename CapIs _ _ _ => cp9e132); (rename Obj.IsDictOf _ _ _ => hd9e132); k_dflt ((first | with_reducible refine' bl_cut cp9e132 hd9e132 ?FQz ?NQz ?hsQz ?_ ?_ | refine' bl_cut cp9e132 hd9e132 ?FQz ?NQz ?hsQz ?_ ?_); (case FQz => k_asm); (case NQz => k_asm); (case hsQz => k_extra "mine pick")); (cases cp9e132); rotate_left 2; (clear cp9e132; intro od'e132 kvs'e132 fr'e132 u'e132 h'e132 tk'e132 hg'e132 hoff'e132 hd'e132 hky'e132 hln'e132 F'e132 N'e132; (try dsimp only); (try k_sweep)); rotate_right 2)
  k_with "MidEnd" => (k_here; (rename Obj.IsDictOf _ _ _ => hd9e133); k_dflt ((first | with_reducible refine' mid_end hd9e133 ?FQz ?NQz ?hsQz ?sbQz ?offQz ?hkQz ?hlQz ?hmQz | refine' mid_end hd9e133 ?FQz ?NQz ?hsQz ?sbQz ?offQz ?hkQz ?hlQz ?hmQz); (case FQz => k_asm); (case NQz => k_asm); (case hsQz => k_extra "mine pick"); (case sbQz => k_extra "mine sub"); (case offQz => k_extra "mine off"); (case hkQz => first | exact mk1 | exact mk0 | fail "keys"); (case hlQz => first | exact stored_len | omega | fail "len"); (case hmQz => (intro ze133 h3e133; have h6e133 := h3e133; (simp only [ltTmp, List.contains_cons, List.contains_nil, Bool.or_false, Bool.or_eq_false_iff, beq_eq_false_iff_ne, ne_eq] at h3e133); (obtain ⟨h7e133, h8e133⟩ := h3e133); first | rfl | (simp only [h7e133, h8e133, h6e133, Bool.false_eq_true, ↓reduceIte]; done)))))
  k_with "exec For" => (k_here; (with_reducible show wpAny _ _ (exec (PySem.Stmt.For (PySem.Expr.Name _ _) (PySem.Expr.Attribute _ _ _) _ [] _) _) _ _ _); (rename Fr _ _ _ _ => lF'e134); (with_unfolding_all refine' For_invVF lF'e134 ?k1Qz ?k2Qz ?_; (case k1Qz => exact rfl); (case k2Qz => exact rfl); k_whole))
  k_with "pyIter ref" => (k_here; (with_reducible show wpAny _ _ (pyIter (Value.ref _)) (fun it s₂ => LoopAtV _ _ _ _ _ _ _ _ _ it s₂) _ _); (rename Obj.IsDictOf _ _ _ => hd9e135); (with_reducible rename LitsAre _ _ _ => hL9e135); k_dflt ((first | with_reducible refine' lt_loop hL9e135 hd9e135 ?hlQz ?hhQz ?FQz ?NQz ?hsQz ?hmQz ?hloQz ?haxQz ?offQz ?sbQz ?_ ?_ | refine' lt_loop hL9e135 hd9e135 ?hlQz ?hhQz ?FQz ?NQz ?hsQz ?hmQz ?hloQz ?haxQz ?offQz ?sbQz ?_ ?_); (case hlQz => with_reducible assumption); (case hhQz => rfl); (case FQz => k_asm); (case NQz => k_asm); (case hsQz => k_extra "mine pick"); (case hmQz => k_extra "mine mem"); (case hloQz => with_reducible assumption); (case haxQz => exact ne_mem (by assumption) (by assumption)); (case offQz => k_extra "mine off"); (case sbQz => k_extra "mine sub")); (intro i'e135 k'e135 t'e135 tt'e135 d'e135 c'e135 p'e135 es'e135 n'e135 a'e135 b'e135 o'e135 od'e135 kvs'e135 fr'e135 u'e135 h'e135 tk'e135 hos'e135 hva'e135 hm1'e135 hm2'e135 hge'e135 hm3'e135 hm4'e135 hsb'e135 hoff'e135 hd'e135 hky'e135 hln'e135 hil'e135 F'e135 N'e135; clear hL9e135; (try dsimp only); (try k_sweep)); rotate_left; (intro od'e135 kvs'e135 fr'e135 u'e135 h'e135 tk'e135 hg'e135 hoff'e135 hd'e135 hky'e135 hln'e135 F'e135 N'e135; clear hL9e135; (try dsimp only); (try k_sweep)); rotate_right)
  k_with "subscriptTail" => (k_here; (with_reducible show wpAny _ _ (subscriptTail _ _ (Value.ref _) (Value.str _ _)) _ _ _); k_dflt ((first | with_reducible refine' item_named ?dQz ?NQz ?pQz ?bQz ?_ ?zQz ?yQz | refine' item_named ?dQz ?NQz ?pQz ?bQz ?_ ?zQz ?yQz); (case bQz => with_reducible assumption); (case dQz => with_reducible assumption); (case NQz => k_asm); (case pQz => k_extra "mine mem"); (case zQz => with_unfolding_all rfl); (case yQz => (intro _; with_unfolding_all rfl))); (try k_fold))
  k_with "subscriptTail Name" => (k_here; (with_reducible show wpAny _ _ (subscriptTail _ _ (Value.ref _) (Value.str _ _)) _ _ _); k_dflt ((first | with_reducible refine' item_named ?dQz ?NQz ?pQz ?bQz ?_ ?zQz ?yQz | refine' item_named ?dQz ?NQz ?pQz ?bQz ?_ ?zQz ?yQz); (case bQz => with_reducible assumption); (case dQz => with_reducible assumption); (case NQz => k_asm); (case pQz => k_extra "mine mem"); (case zQz => with_unfolding_all rfl); (case yQz => (intro _; with_unfolding_all rfl))); (try k_fold))
  k_with "LtTurn" => (k_here; (rename Obj.IsDictOf _ _ _ => hd9e138); k_dflt ((first | with_reducible refine' lt_turn hd9e138 ?FQz ?NQz ?hsQz ?sbQz ?offQz ?hkQz ?hoQz ?hlQz ?hmQz | refine' lt_turn hd9e138 ?FQz ?NQz ?hsQz ?sbQz ?offQz ?hkQz ?hoQz ?hlQz ?hmQz); (case FQz => k_asm); (case NQz => k_asm); (case hsQz => k_extra "mine pick"); (case sbQz => k_extra "mine sub"); (case offQz => with_reducible assumption); (case hkQz => with_reducible assumption); (case hoQz => with_reducible assumption); (case hlQz => with_reducible assumption); (case hmQz => (intro ze138 h1e138 h3e138; have h6e138 := h3e138; (simp only [ltTmp, List.contains_cons, List.contains_nil, Bool.or_false, Bool.or_eq_false_iff, beq_eq_false_iff_ne, ne_eq] at h3e138); (obtain ⟨h7e138, h8e138⟩ := h3e138); (simp only [h1e138, h7e138, h8e138, h6e138, Bool.false_eq_true, ↓reduceIte]; done)))))
  k_with "exec While Compare cons nil" => (k_here; (rename Obj.IsDictOf _ _ _ => hd9e139); (with_reducible rename WalkAll _ _ _ _ => w9e139); (k_dflt (rename allRefs _ => r9e139)); k_dflt ((first | with_reducible refine' bw_while w9e139 hd9e139 ?FQz ?NQz ?hsQz ?hs2Qz ?hs3Qz ?o1Qz ?o2Qz r9e139 ?hbQz ?hEQz ?_ | refine' bw_while w9e139 hd9e139 ?FQz ?NQz ?hsQz ?hs2Qz ?hs3Qz ?o1Qz ?o2Qz r9e139 ?hbQz ?hEQz ?_); (case FQz => k_asm); (case NQz => k_asm); (case hsQz => k_extra "mine pick"); (case hs2Qz => k_extra "mine mem"); (case hs3Qz => k_extra "mine sub"); (case o1Qz => k_extra "mine off"); (case o2Qz => k_extra "mine off"); (case hbQz => (have z9e139 : ([] : List (Int × Value)).length = 0 := rfl; omega)); (case hEQz => passes_own)); intro od'e139 kvs'e139 st'e139 q'e139 xs'e139 n'e139 fr'e139 u'e139 h'e139 tk'e139 g'e139 o1'e139 o2'e139 hd'e139 r'e139 w'e139 hb'e139 hk'e139 F'e139 N'e139; (try dsimp only); (try k_sweep))
  k_with "compareOp NotEq ref ref" => (k_here; (with_reducible rename WalkAll _ _ _ _ => w9e140); (k_dflt (rename allRefs _ => r9e140)); k_dflt ((first | with_reducible refine' list_ne_nil ?NQz ?hDQz ?hBQz ?huQz ?_ ?_ | refine' list_ne_nil ?NQz ?hDQz ?hBQz ?huQz ?_ ?_); (case NQz => k_asm); (case hDQz => k_extra "mine mem"); (case hBQz => k_extra "mine mem"); (case huQz => ke_room)); (intro e9e140; subst e9e140; cases w9e140; (try dsimp only); (try k_fold)); rotate_left; (intro e9e140; obtain ⟨st9e140, v9e140, e8e140⟩ := last_of e9e140; subst e8e140; clear e9e140; have l9e140 := w9e140.len r9e140; obtain ⟨ys9e140, zs9e140, k9e140, j9e140, wl9e140, wv9e140, ex9e140, en9e140⟩ := w9e140.last; have hz9e140 : st9e140.length ≤ 100000 := (by rw [List.length_append] at l9e140; omega); subst ex9e140 en9e140; have ra9e140 := r9e140.left; obtain ⟨a9e140, ev9e140, cs9e140⟩ := wv9e140.ref_cases (r9e140 v9e140 (List.mem_append.mpr (.inr (.head _)))); subst ev9e140; clear w9e140 r9e140 l9e140 wv9e140; rcases cs9e140 with ⟨ht9e140, ez9e140, ej9e140⟩ | ⟨x9e140, t9e140, r0e140, ht9e140, htl9e140, ez9e140, ej9e140⟩ | ⟨u9e140, r0e140, k0e140, ht9e140, hs9e140, hp9e140, hw9e140, ej9e140⟩ | ⟨x9e140, t9e140, r0e140, ow9e140, y0e140, k0e140, ht9e140, ho9e140, hw9e140, ez9e140, ej9e140⟩; rotate_left 2; (rcases hp9e140 with hp9e140 | ⟨b9e140, ws9e140, eu9e140, hb9e140⟩; rotate_left; (subst eu9e140); rotate_right); rotate_right 2; all_goals (try dsimp only); all_goals (try k_fold)); rotate_right)
  k_with "call builtin:list.pop" => (k_here; k_dflt ((first | with_reducible refine' left_pop ?FQz ?NQz ?hsQz ?offQz ?hzQz ?_ | refine' left_pop ?FQz ?NQz ?hsQz ?offQz ?hzQz ?_); (case FQz => k_asm); (case NQz => k_asm); (case hsQz => k_extra "mine pick"); (case offQz => k_extra "mine off"); (case hzQz => with_reducible assumption)); intro h'e141 F'e141 N'e141; (try dsimp only); (try k_sweep))
  k_with "compareOp Eq ref ref" => (k_here; k_dflt ((first | with_reducible refine' tuple_eq_nil ?htQz ?XQz ?FQz ?NQz ?stQz ?hBQz ?huQz ?_ ?_ | refine' tuple_eq_nil ?htQz ?XQz ?FQz ?NQz ?stQz ?hBQz ?huQz ?_ ?_); (case htQz => with_reducible assumption); (case XQz => k_asm); (case FQz => k_asm); (case NQz => k_asm); (case stQz => k_extra "mine subt"); (case hBQz => k_extra "mine mem"); (case huQz => ke_room)); all_goals (intro e9e142); all_goals (first | exact absurd e9e142 (List.cons_ne_nil _ _) | exact absurd (Eq.refl _) e9e142 | ((try dsimp only); (try k_fold))))
  k_with "call builtin:isinstance" => (k_here; (with_reducible show wpAny _ _ (call (Value.builtin "isinstance") [_, Value.type _]) _ _ _); k_dflt (first | (refine' isi_tup_str ?htQz ?XQz ?FQz ?NQz ?stQz ?_; (case htQz => with_reducible assumption); (case XQz => k_asm); (case FQz => k_asm); (case NQz => k_asm); (case stQz => k_extra "mine subt")) | (refine' isi_plain_str ?hvQz ?hsQz ?_; (case hvQz => with_reducible assumption); (case hsQz => with_reducible assumption)) | (refine' isi_plain ?hvQz ?_; (case hvQz => with_reducible assumption)) | fail "isi"); (try dsimp only); (try k_fold))
  k_with "call builtin:isinstance" => (k_here; (with_reducible show wpAny _ _ (call (Value.builtin "isinstance") [Value.ref _, Value.type "tuple"]) _ _ _); k_dflt ((first | with_reducible refine' isi_tup ?htQz ?XQz ?FQz ?NQz ?stQz ?_ | refine' isi_tup ?htQz ?XQz ?FQz ?NQz ?stQz ?_); (case htQz => with_reducible assumption); (case XQz => k_asm); (case FQz => k_asm); (case NQz => k_asm); (case stQz => k_extra "mine subt")); (try dsimp only); (try k_fold))
  k_with "call ref" => (k_here; (with_reducible show wpAny _ _ (call (Value.ref 68) [_]) _ _ _); k_dflt ((first | with_reducible refine' istype_use ?k1Qz ?k2Qz ?k3Qz ?k4Qz ?k5Qz ?a3Qz ?hfQz ?hkQz ?a1Qz ?a2Qz ?a4Qz ?hcQz ?hatQz ?stQz ?_ | refine' istype_use ?k1Qz ?k2Qz ?k3Qz ?k4Qz ?k5Qz ?a3Qz ?hfQz ?hkQz ?a1Qz ?a2Qz ?a4Qz ?hcQz ?hatQz ?stQz ?_); (case hatQz => with_reducible assumption); (case hcQz => first | exact .inl ⟨rfl, by with_reducible assumption⟩ | exact .inr ⟨rfl, _, _, _, rfl, Own.head (by with_reducible assumption)⟩); (case k2Qz => k_asm); (case k1Qz => k_asm); (case k3Qz => k_asm); (case k4Qz => k_asm); (case k5Qz => k_asm); (case a3Qz => exact rfl); (case hfQz => first | exact rfl | assumption); (case hkQz => first | exact rfl | assumption); (case a1Qz => exact rfl); (case a2Qz => k_extra "mine room"); (case a4Qz => k_extra "mine room"); (case stQz => k_extra "mine subt")); intro h'e144 tk'e144 F'e144 N'e144; (try dsimp only); (try k_sweep); (try k_fold))
  k_with "call ref" => (k_here; (with_reducible show wpAny _ _ (call (Value.ref 61) [_, _, _]) _ _ _); (rename Obj.IsDictOf _ _ _ => hd9e145); (with_reducible rename Own _ _ _ _ => ho9e145); (rename WorldAt _ _ _ => ww9e145); (with_reducible rename Grow _ _ => g9e145); k_dflt ((first | with_reducible refine' boxed_use2 ho9e145 hd9e145 ?k1Qz ?k2Qz ?k3Qz ?k4Qz ?k5Qz ?a3Qz ?hfQz ?hkQz ?a1Qz ?a2Qz ?a4Qz ?hatQz (ww9e145.mono g9e145.1) ?hlQz ?hsQz ?hs2Qz ?hneQz ?ho2Qz ?o1Qz ?o2Qz ?sbQz ?_ | refine' boxed_use2 ho9e145 hd9e145 ?k1Qz ?k2Qz ?k3Qz ?k4Qz ?k5Qz ?a3Qz ?hfQz ?hkQz ?a1Qz ?a2Qz ?a4Qz ?hatQz (ww9e145.mono g9e145.1) ?hlQz ?hsQz ?hs2Qz ?hneQz ?ho2Qz ?o1Qz ?o2Qz ?sbQz ?_); (case hatQz => with_reducible assumption); (case k2Qz => k_asm); (case k1Qz => k_asm); (case k3Qz => k_asm); (case k4Qz => k_asm); (case k5Qz => k_asm); (case a3Qz => exact rfl); (case hfQz => first | exact rfl | assumption); (case hkQz => first | exact rfl | assumption); (case a1Qz => exact rfl); (case a2Qz => k_extra "mine room"); (case a4Qz => k_extra "mine room"); (case hlQz => omega); (case hsQz => k_extra "mine pick"); (case hs2Qz => exact Pick.tail Pick.head); (case hneQz => k_extra "mine ne"); (case ho2Qz => exact rfl); (case o1Qz => k_extra "mine off"); (case o2Qz => k_extra "mine off"); (case sbQz => k_extra "mine sub")); intro od'e145 kvs'e145 fr'e145 h'e145 tk'e145 g'e145 o1'e145 o2'e145 hd'e145 hk'e145 hl'e145 F'e145 N'e145; (try dsimp only); (try k_sweep); (try k_fold))
  k_with "eval ListComp" => (k_here; k_dflt ((first | with_reducible refine' comp_eval ?c1Qz ?c2Qz ?c3Qz ?_ ?c5Qz | refine' comp_eval ?c1Qz ?c2Qz ?c3Qz ?_ ?c5Qz); (case c1Qz => with_unfolding_all rfl); (case c2Qz => rfl); (case c3Qz => decide); (case c5Qz => intro _; with_unfolding_all rfl)))
  k_with "CSrc" => (k_here; (rename Obj.IsDictOf _ _ _ => hd9e146); (k_dflt (rename allRefs _ => r9e146)); k_dflt ((first | with_reducible refine' parts_comp2 hd9e146 r9e146 ?htQz ?hWQz ?XQz ?FQz ?NQz ?hsQz ?hs2Qz ?o1Qz ?o2Qz ?sttQz ?hnQz ?hhQz ?c1Qz ?c2Qz ?c3Qz ?_ ?_ ?_ | refine' parts_comp2 hd9e146 r9e146 ?htQz ?hWQz ?XQz ?FQz ?NQz ?hsQz ?hs2Qz ?o1Qz ?o2Qz ?sttQz ?hnQz ?hhQz ?c1Qz ?c2Qz ?c3Qz ?_ ?_ ?_); (case FQz => k_asm); (case NQz => k_asm); (case XQz => k_asm); (case htQz => with_reducible assumption); (case hWQz => with_reducible assumption); (case hsQz => k_extra "mine pick"); (case hs2Qz => k_extra "mine pick"); (case o1Qz => k_extra "mine off"); (case o2Qz => k_extra "mine off"); (case sttQz => k_extra "mine subt"); (case hnQz => omega); (case hhQz => rfl); (case c1Qz => decide); (case c2Qz => rfl); (case c3Qz => rfl)); (intro b'e146 ws'e146 C'e146 oC'e146 m2'e146 fr2'e146 h2'e146 tk2'e146 E2'e146 hT2'e146 hC2'e146 hNs2'e146 hx2'e146 F'e146 N'e146; (try dsimp only); (try k_sweep)); rotate_left; (intro v'e146 C'e146 oC'e146 m2'e146 fr2'e146 h2'e146 tk2'e146 E2'e146 hv2'e146 hC2'e146 hNs2'e146 hx2'e146 F'e146 N'e146; (try dsimp only); (try k_sweep)); rotate_left; (intro B'e146 h2'e146 tk2'e146 fr2'e146 g2'e146 o12'e146 o22'e146 n12'e146 n22'e146 hl2'e146 F'e146 N'e146; (try dsimp only); (try k_sweep)); rotate_right 2)
  k_with "PtEnd" => (k_here; k_dflt ((first | with_reducible refine' PtEnd.intro ?FQz ?NQz | refine' PtEnd.intro ?FQz ?NQz); (case FQz => k_asm); (case NQz => k_asm)))
  k_with "call builtin:list.extend" => (k_here; k_dflt ((first | with_reducible refine' left_extend ?FQz ?NQz ?hsQz ?hBQz ?offQz ?hzQz ?hz2Qz ?_ | refine' left_extend ?FQz ?NQz ?hsQz ?hBQz ?offQz ?hzQz ?hz2Qz ?_); (case FQz => k_asm); (case NQz => k_asm); (case hsQz => k_extra "mine pick"); (case hBQz => k_extra "mine mem"); (case offQz => k_extra "mine off"); (case hzQz => with_reducible assumption); (case hz2Qz => omega)); intro h'e148 n'e148 F'e148 N'e148; (try dsimp only); (try k_sweep))
  k_with "BwPost" => (k_here; dsimp only [BwPost])
  exact True.intro
set_option maxRecDepth 100000 in
set_option maxHeartbeats 8000000 in
theorem boxlocals_con (w : World) : Con w 73 440 5500 (blPre w) (blPost w) := by
  unfold Con
  k_fill
  rintro ⟨fr, tf, W, vs, xs, n, caps, outs⟩ mean mg mb env outer gd A₀ base h₀ L m news s vs' Q E B F X N T hf hk ⟨rfl, rfl, hW, hFn, hWk, hrf, hn, ho⟩ hret
  try dsimp only at *
  obtain ⟨td, es, k, bd, ca, la, lo, lks, q1, q2, ⟨q3, q4, q5⟩, q6, q7, q8, q9, q10, q11⟩ := hFn.ex
  k_extra "mine enter"
  k_steps
  all_goals (first
    | ((rename Obj.IsDictOf _ _ _ => hd9); (refine' bl_end hret hd9 ?F ?N ?hs ?sb ?hlo ?hlt ?hl ?hk); (case F => k_asm); (case N => k_asm); (case hs => k_extra "mine pick"); (case sb => k_extra "mine sub"); (case hlo => assumption); (case hlt => assumption); (case hl => omega); (case hk => (refine' bl_keys ?h1 ?h2 ?h3 rfl rfl; (case h3 => assumption); (case h2 => assumption); (case h1 => assumption))))
    | ((rename Obj.IsDictOf _ _ _ => hd9); (rename allRefs _ => r9); (with_reducible rename WalkAll _ _ _ _ => wl9); (rename _ = ([] : List Int) => ez9); subst ez9; (refine' bw_end (WalkAll.mono ?st wl9) hd9 ?F ?N ?hs ?hs2 ?sb ?o1 ?o2 r9 ?hn ?hb (be0 ?hk) ?hm); (case F => k_asm); (case N => k_asm); (case hs => k_extra "mine pick"); (case hs2 => k_extra "mine pick"); (case sb => k_extra "mine sub"); (case o1 => k_extra "mine off"); (case o2 => k_extra "mine off"); (case st => k_extra "mine subt"); (case hn => omega); (case hb => omega); (case hk => with_reducible assumption); (case hm => (intro z h3; have h6 := h3; (simp only [bwTmp, List.contains_cons, List.contains_nil, Bool.or_false, beq_eq_false_iff_ne, ne_eq] at h3); first | rfl | (simp only [h3, h6, Bool.false_eq_true, ↓reduceIte]; done))))
    | ((rename Obj.IsDictOf _ _ _ => hd9); (rename allRefs _ => r9); (with_reducible rename WalkAll _ _ _ _ => hw9); (with_reducible rename Own _ _ _ _ => ho9); (rename _ = _ ++ _ => ez9); subst ez9; (refine' bw_end (WalkAll.app (WalkAll.mono ?st ?wl) (WalkAll.mono ?st2 hw9.refs)) hd9 ?F ?N ?hs ?hs2 ?sb ?o1 ?o2 (r9.app (refs_all _)) ?hn ?hb (be2 ?hk ?hk2) ?hm); (case wl => with_reducible assumption); (case F => k_asm); (case N => k_asm); (case hs => k_extra "mine pick"); (case hs2 => k_extra "mine pick"); (case sb => k_extra "mine sub"); (case o1 => k_extra "mine off"); (case o2 => k_extra "mine off"); (case st => k_extra "mine subt"); (case hn => omega); (case hb => omega); (case hk => with_reducible assumption); (case hm => (intro z h3; have h6 := h3; (simp only [bwTmp, List.contains_cons, List.contains_nil, Bool.or_false, beq_eq_false_iff_ne, ne_eq] at h3); first | rfl | (simp only [h3, h6, Bool.false_eq_true, ↓reduceIte]; done))); (case hk2 => with_reducible assumption); (case st2 => k_extra "mine subt"))
    | ((rename Obj.IsDictOf _ _ _ => hd9); (rename allRefs _ => r9); (with_reducible rename WalkAll _ _ _ _ => hw9); (refine' bw_end (WalkAll.app (WalkAll.mono ?st ?wl) (WalkAll.mono ?st2 hw9.refs)) hd9 ?F ?N ?hs ?hs2 ?sb ?o1 ?o2 (r9.app (refs_all _)) ?hn ?hb ?hk ?hm); (case wl => with_reducible assumption); (case F => k_asm); (case N => k_asm); (case hs => k_extra "mine pick"); (case hs2 => k_extra "mine pick"); (case sb => k_extra "mine sub"); (case o1 => k_extra "mine off"); (case o2 => k_extra "mine off"); (case st => k_extra "mine subt"); (case hn => omega); (case hb => omega); (case hk => with_reducible assumption); (case hm => (intro z h3; have h6 := h3; (simp only [bwTmp, List.contains_cons, List.contains_nil, Bool.or_false, beq_eq_false_iff_ne, ne_eq] at h3); first | rfl | (simp only [h3, h6, Bool.false_eq_true, ↓reduceIte]; done))); (case st2 => k_extra "mine subt"))
    | fail "end")
end

end
theorem ln32 : True := by
  k_with_none
  k_with "eval Name" => (k_here; (with_reducible show wpAny _ _ (eval (PySem.Expr.Name _ _) (envOf _ _ _ _ _)) _ _ _); name_kind "globalImplicit"; k_dflt ((with_reducible refine' name_K ?k0Qz ?k1Qz ?k2Qz ?k3Qz ?_ ?aQz ?bQz ?cQz); (case k0Qz => with_reducible assumption); (case k1Qz => with_reducible assumption); (case k2Qz => k_asm); (case k3Qz => k_is); (case aQz => exact rfl); (case bQz => kernel_rfl!); (case cQz => decide +kernel); k_whole))
  k_with "eval Name" => (k_here; (with_reducible show wpAny _ _ (eval (PySem.Expr.Name _ _) (envOf _ _ _ _ _)) _ _ _); name_kind "globalImplicit"; name_is_builtin; k_dflt ((with_reducible refine' name_B ?k0Qz ?k1Qz ?k2Qz ?k3Qz ?k4Qz ?k5Qz ?_ ?aQz ?bQz ?cQz); (case k0Qz => with_reducible assumption); (case k1Qz => with_reducible assumption); (case k2Qz => k_asm); (case k3Qz => k_is); (case k4Qz => boot_fast); (case k5Qz => decide +kernel); (case aQz => exact rfl); (case bQz => kernel_rfl!); (case cQz => decide +kernel); k_whole))
  k_with "eval Name" => (k_here; (with_reducible show wpAny _ _ (eval (PySem.Expr.Name _ _) (envOf _ _ _ _ _)) _ _ _); name_kind "local"; k_dflt ((with_reducible refine' ld ?k1Qz ?k2Qz ?_ ?aQz ?bQz ?cQz); (case k1Qz => with_reducible assumption); (case aQz => exact rfl); (case bQz => kernel_rfl!); (case cQz => decide +kernel); (case k2Qz => exact rfl); k_whole))
  k_with "eval Name" => (k_here; (with_reducible show wpAny _ _ (eval (PySem.Expr.Name _ _) (envOfC _ _ _ _ _)) _ _ _); k_dflt first | (name_kind "local"; (with_reducible refine' nameC_L ?FQz ?vQz ?_ ?aQz ?bQz ?cQz); (case FQz => with_reducible assumption); (case aQz => exact rfl); (case bQz => kernel_rfl!); (case cQz => decide +kernel); (case vQz => first | exact rfl | assumption); k_whole) | (name_kind "cell"; (with_reducible refine' nameC_C ?NQz ?kQz ?mQz ?dQz ?_ ?aQz ?bQz ?cQz); (case aQz => exact rfl); (case bQz => kernel_rfl!); (case cQz => decide +kernel); (case NQz => with_reducible assumption); (case kQz => exact rfl); (case mQz => k_mem); (case dQz => k_asm); k_whole) | (name_kind "globalImplicit"; name_is_builtin; (with_reducible refine' nameC_B ?FQz ?XQz ?TQz ?eQz ?vQz ?nQz ?_ ?aQz ?bQz ?cQz); (case FQz => with_reducible assumption); (case XQz => with_reducible assumption); (case TQz => k_asm); (case aQz => exact rfl); (case bQz => kernel_rfl!); (case cQz => decide +kernel); (case eQz => k_is); (case vQz => boot_fast); (case nQz => decide +kernel); k_whole) | (name_kind "globalImplicit"; (with_reducible refine' nameC_K ?FQz ?XQz ?TQz ?eQz ?_ ?aQz ?bQz ?cQz); (case FQz => with_reducible assumption); (case XQz => with_reducible assumption); (case TQz => k_asm); (case aQz => exact rfl); (case bQz => kernel_rfl!); (case cQz => decide +kernel); (case eQz => k_is); k_whole))
  k_with "eval Name" => (k_here; (with_reducible show wpAny _ _ (eval (PySem.Expr.Name _ _) (compEnvC _ _ _ _)) _ _ _); k_dflt first | (name_kind "local"; (with_reducible refine' LCgL.ld_own ?NQz ?mQz ?CQz ?xQz ?_ ?aQz ?bQz ?cQz); (case NQz => with_reducible assumption); (case mQz => k_mem); (case CQz => with_reducible assumption); (case xQz => assumption); (case aQz => exact rfl); (case bQz => kernel_rfl!); (case cQz => decide +kernel); k_whole) | (name_kind "globalImplicit"; name_is_builtin; (with_reducible refine' LCgL.ld_built ?FQz ?XQz ?TQz ?eQz ?vQz ?nQz ?_ ?gQz ?hQz ?aQz ?bQz ?cQz); (case FQz => with_reducible assumption); (case XQz => with_reducible assumption); (case TQz => with_reducible assumption); (case gQz => exact rfl); (case hQz => exact rfl); (case aQz => exact rfl); (case bQz => kernel_rfl!); (case cQz => decide +kernel); (case eQz => k_is); (case vQz => boot_fast); (case nQz => decide +kernel); k_whole) | (name_kind "globalImplicit"; (with_reducible refine' LCgL.ld_global ?FQz ?XQz ?TQz ?eQz ?_ ?gQz ?aQz ?bQz ?cQz); (case FQz => with_reducible assumption); (case XQz => with_reducible assumption); (case TQz => with_reducible assumption); (case gQz => exact rfl); (case aQz => exact rfl); (case bQz => kernel_rfl!); (case cQz => decide +kernel); (case eQz => k_is); k_whole) | (name_kind "free"; (with_reducible refine' lcf_free ?NQz ?kQz ?mQz ?dQz ?_ ?aQz ?bQz ?cQz ?eQz); (case aQz => exact rfl); (case bQz => kernel_rfl!); (case cQz => decide +kernel); (case eQz => decide +kernel); (case NQz => with_reducible assumption); (case kQz => exact rfl); (case mQz => k_mem); (case dQz => k_asm); k_whole))
  k_with "newTuple" => (k_here; k_dflt ((with_reducible refine' kup_newTuple ?FQz ?NQz ?_ ?zQz); (case FQz => with_reducible assumption); (case NQz => with_reducible assumption); (case zQz => first | exact Nat.le_of_ble_eq_true rfl | kmk_size)); intro D'e5 h'e5 F'e5 N'e5 l1e5; (try k_sweep))
  k_with "newList" => (k_here; k_dflt ((with_reducible refine' newList_K ?FQz ?NQz ?_ ?zQz); (case FQz => with_reducible assumption); (case NQz => with_reducible assumption); (case zQz => first | exact Nat.le_of_ble_eq_true rfl | size_fits)); intro D'e6 h'e6 F'e6 N'e6 l1e6; (try k_sweep))
  k_with "And" => ((with_reducible show Frag.In _ _ ∧ _); refine' And.intro ?kQz ?_; (case kQz => k_dflt (first | with_reducible assumption | (refine' Frag.In.keeps ?xQz (Fr.keep ?fQz); (case fQz => with_reducible assumption); (case xQz => with_reducible assumption)) | k_in)); (try dsimp only [List.nil_append, List.cons_append]))
  k_with "execs cons" => (k_here; (try k_gentoks); (with_reducible refine' wpAny_execs_cons ?_); (try dsimp only); (try k_fold))
  k_with "ite" => (k_closed; first | (with_reducible refine' ite_tt ?_) | (with_reducible refine' ite_ff ?_) | ((with_reducible refine' ite_neg ?hQz ?_); (case hQz => decide +kernel)) | ((with_reducible refine' ite_pos ?hQz ?_); (case hQz => decide +kernel)))
  k_with "spliced" => k_dflt ((first | (with_reducible refine' args_cons (env := envOf _ _ _ _ _) ?_ ?heQz) | (with_reducible refine' args_cons (env := envOfC _ _ _ _ _) ?_ ?heQz)); (case heQz => exact rfl))
  k_with "eval Call" => k_dflt ((first | (with_reducible refine' Call_ (env := envOf _ _ _ _ _) ?_ ?heQz) | (with_reducible refine' Call_ (env := envOfC _ _ _ _ _) ?_ ?heQz)); (case heQz => exact rfl))
  k_with "exec Assign" => k_dflt ((first | (with_reducible refine' wpAny_Assign_Name (env := envOf _ _ _ _ _) ?_ ?heQz) | (with_reducible refine' wpAny_Assign_Name (env := envOfC _ _ _ _ _) ?_ ?heQz)); (case heQz => exact rfl); (try k_fold))
  k_with "callWith ref" => (k_here; k_dflt first | ((with_reducible refine' callWith_K ?k1Qz ?k2Qz ?_ ?heQz ?hpQz); (case k1Qz => with_reducible assumption); (case k2Qz => k_is); (case heQz => exact rfl); (case hpQz => exact rfl); k_whole) | ((with_reducible refine' callWith_K0 ?k1Qz ?k2Qz ?_); (case k1Qz => (first | with_reducible assumption | (refine' Frag.In.keeps ?xQz (Fr.keep ?fQz); (case fQz => with_reducible assumption); (case xQz => with_reducible assumption)) | k_in)); (case k2Qz => k_is); k_whole))
  k_with "storeName" => (k_here; k_dflt first | ((with_reducible refine' stN ?FQz ?NQz ?_ ?aQz ?bQz); (case FQz => with_reducible assumption); (case NQz => with_reducible assumption); (case aQz => exact rfl); (case bQz => kernel_rfl!); k_whole; intro h'e14 F'e14 N'e14; (try k_sweep)) | (name_kind "local"; (with_reducible refine' storeC_L ?FQz ?NQz ?_ ?aQz ?bQz); (case FQz => with_reducible assumption); (case NQz => with_reducible assumption); (case aQz => exact rfl); (case bQz => kernel_rfl!); k_whole; intro h'e14 F'e14 N'e14; (try k_sweep)))
  k_with "mine room" => first | exact Nat.le_of_ble_eq_true rfl | ((try simp only [recursionLimit]); (try dsimp only [Around.deeper, Around.in1, Around.mark, rnd]); first | exact room_le (by with_reducible assumption) rfl | omega) | fail "mine"
  k_with "mine enter" => (refine wpAny_call ?_; k_dflt ((with_reducible refine' code_def ?k1Qz ?k2Qz ?k3Qz ?k4Qz ?k5Qz ?kAQz ?kFQz ?kKQz ?k6Qz ?k7Qz ?k8Qz ?k9Qz ?kBQz ?_ ?c2Qz ?c3Qz ?c4Qz ?c5Qz); (case kAQz => exact rfl); (case kFQz => assumption); (case kKQz => assumption); (case k1Qz => k_asm); (case k2Qz => k_asm); (case k3Qz => k_asm); (case k4Qz => k_asm); (case k5Qz => k_asm); (case k6Qz => k_is); (case k7Qz => k_is); (case k8Qz => ktr_room); (case k9Qz => exact BindsTo.of_eq rfl); (case c5Qz => decide); (case kBQz => exact locs rfl); (case c2Qz => exact rfl); (case c3Qz => exact rfl); (case c4Qz => exact rfl); k_whole; intro g'e16 L'e16 h'e16 FG'e16 F'e16 N'e16 B'e16 X'e16 T'e16; (try dsimp only); (try k_fold)))
  k_with "mine pick" => first | exact Pick.head | (refine' Pick.tail ?pkQz; (case pkQz => k_extra "mine pick")) | fail "mine"
  k_with "mine mem" => first | with_reducible assumption | exact mem_hd | (refine' mem_tl ?pmQz; (case pmQz => k_extra "mine mem")) | (refine' Sub.mem ?pgQz ?pmQz; (case pgQz => with_reducible assumption); (case pmQz => k_extra "mine mem")) | (refine' Grow.mem ?pgQz ?pmQz; (case pgQz => with_reducible assumption); (case pmQz => k_extra "mine mem")) | fail "mine"
  k_with "mine at" => first | (with_reducible exact at_hd) | ((with_reducible refine' at_tl ?pmQz); (case pmQz => k_extra "mine at")) | fail "mine"
  k_with "mine pj" => first | with_reducible assumption | exact pj_l (by with_reducible assumption) | exact pj_l (pj_r (by with_reducible assumption)) | exact pj_r (by with_reducible assumption) | exact pj_l (pj_2 (by with_reducible assumption)) | exact pj_2 (by with_reducible assumption) | exact pj_l (pj_2 (pj_r (by with_reducible assumption))) | exact pj_2 (pj_r (by with_reducible assumption)) | exact pj_l (pj_4 (by with_reducible assumption)) | exact pj_4 (by with_reducible assumption) | exact pj_l (pj_4 (pj_r (by with_reducible assumption))) | exact pj_4 (pj_r (by with_reducible assumption)) | exact pj_l (pj_4 (pj_2 (by with_reducible assumption))) | exact pj_4 (pj_2 (by with_reducible assumption)) | exact pj_l (pj_4 (pj_2 (pj_r (by with_reducible assumption)))) | exact pj_4 (pj_2 (pj_r (by with_reducible assumption))) | exact pj_l (pj_8 (by with_reducible assumption)) | exact pj_8 (by with_reducible assumption) | exact pj_l (pj_8 (pj_r (by with_reducible assumption))) | exact pj_8 (pj_r (by with_reducible assumption)) | exact pj_l (pj_8 (pj_2 (by with_reducible assumption))) | exact pj_8 (pj_2 (by with_reducible assumption)) | exact pj_l (pj_8 (pj_2 (pj_r (by with_reducible assumption)))) | exact pj_8 (pj_2 (pj_r (by with_reducible assumption))) | exact pj_l (pj_8 (pj_4 (by with_reducible assumption))) | exact pj_8 (pj_4 (by with_reducible assumption)) | exact pj_l (pj_8 (pj_4 (pj_r (by with_reducible assumption)))) | exact pj_8 (pj_4 (pj_r (by with_reducible assumption))) | exact pj_l (pj_8 (pj_4 (pj_2 (by with_reducible assumption)))) | exact pj_8 (pj_4 (pj_2 (by with_reducible assumption))) | exact pj_l (pj_8 (pj_4 (pj_2 (pj_r (by with_reducible assumption))))) | exact pj_8 (pj_4 (pj_2 (pj_r (by with_reducible assumption)))) | exact pj_l (pj_16 (by with_reducible assumption)) | exact pj_16 (by with_reducible assumption) | exact pj_l (pj_16 (pj_r (by with_reducible assumption))) | exact pj_16 (pj_r (by with_reducible assumption)) | exact pj_l (pj_16 (pj_2 (by with_reducible assumption))) | exact pj_16 (pj_2 (by with_reducible assumption)) | exact pj_l (pj_16 (pj_2 (pj_r (by with_reducible assumption)))) | exact pj_16 (pj_2 (pj_r (by with_reducible assumption))) | exact pj_l (pj_16 (pj_4 (by with_reducible assumption))) | exact pj_16 (pj_4 (by with_reducible assumption)) | exact pj_l (pj_16 (pj_4 (pj_r (by with_reducible assumption)))) | exact pj_16 (pj_4 (pj_r (by with_reducible assumption))) | exact pj_l (pj_16 (pj_4 (pj_2 (by with_reducible assumption)))) | exact pj_16 (pj_4 (pj_2 (by with_reducible assumption))) | exact pj_l (pj_16 (pj_4 (pj_2 (pj_r (by with_reducible assumption))))) | exact pj_16 (pj_4 (pj_2 (pj_r (by with_reducible assumption)))) | exact pj_l (pj_16 (pj_8 (by with_reducible assumption))) | exact pj_16 (pj_8 (by with_reducible assumption)) | exact pj_l (pj_16 (pj_8 (pj_r (by with_reducible assumption)))) | exact pj_16 (pj_8 (pj_r (by with_reducible assumption))) | exact pj_l (pj_16 (pj_8 (pj_2 (by with_reducible assumption)))) | exact pj_16 (pj_8 (pj_2 (by with_reducible assumption))) | exact pj_l (pj_16 (pj_8 (pj_2 (pj_r (by with_reducible assumption))))) | exact pj_16 (pj_8 (pj_2 (pj_r (by with_reducible assumption)))) | exact pj_l (pj_16 (pj_8 (pj_4 (by with_reducible assumption)))) | exact pj_16 (pj_8 (pj_4 (by with_reducible assumption))) | exact pj_l (pj_16 (pj_8 (pj_4 (pj_r (by with_reducible assumption))))) | exact pj_16 (pj_8 (pj_4 (pj_r (by with_reducible assumption)))) | exact pj_l (pj_16 (pj_8 (pj_4 (pj_2 (by with_reducible assumption))))) | exact pj_16 (pj_8 (pj_4 (pj_2 (by with_reducible assumption)))) | exact pj_l (pj_16 (pj_8 (pj_4 (pj_2 (pj_r (by with_reducible assumption)))))) | exact pj_16 (pj_8 (pj_4 (pj_2 (pj_r (by with_reducible assumption))))) | fail "mine"
  k_with "mine new" => first | ((with_reducible refine' ne_new ?hQz ?mQz); (case hQz => with_reducible assumption); (case mQz => k_extra "mine at")) | ((with_reducible refine' ne_new' ?hQz ?mQz); (case hQz => with_reducible assumption); (case mQz => k_extra "mine at")) | ((with_reducible refine' Nat.ne_of_lt ?hQz); (case hQz => k_extra "mine pj")) | ((with_reducible refine' Nat.ne_of_gt ?hQz); (case hQz => k_extra "mine pj")) | fail "mine"
  k_with "mine ne" => first | assumption | (refine Ne.symm ?_; assumption) | k_extra "mine new" | (refine neN ?_; (try dsimp only); first | k_extra "mine new" | omega) | fail "mine"
  k_with "mine off" => first | with_reducible assumption | exact Off.nil | (refine Off.tup ?_; k_extra "mine off") | (refine Off.ne ?_ ?_; (k_extra "mine ne"); (k_extra "mine off")) | fail "mine"
  k_with "mine sub" => first | with_reducible assumption | exact Sub.refl | (refine Sub.tl ?_; k_extra "mine sub") | (refine' Sub.gr ?pgQz ?pkQz; (case pgQz => with_reducible assumption); (case pkQz => k_extra "mine sub")) | fail "mine"
  k_with "call ref" => (k_here; (with_reducible show wpAny _ _ (call (Value.ref 220) [Value.ref _, Value.int _ _]) _ _ _); k_dflt ((with_reducible refine' take_use ?k1Qz ?k2Qz ?k3Qz ?k4Qz ?k5Qz ?a3Qz ?hfQz ?hkQz ?a1Qz ?a2Qz ?a4Qz ?hsQz ?hoQz ?htQz ?offQz ?_); (case k1Qz => k_asm); (case k2Qz => k_asm); (case k3Qz => k_asm); (case k4Qz => k_asm); (case k5Qz => k_asm); (case a3Qz => exact rfl); (case hfQz => exact rfl); (case hkQz => exact rfl); (case a1Qz => exact rfl); (case a2Qz => k_extra "mine room"); (case a4Qz => k_extra "mine room"); (case hoQz => assumption); (case hsQz => k_extra "mine pick"); (case htQz => exact ⟨by decide, by decide⟩); (case offQz => k_extra "mine off")); intro d'e34 td'e34 o'e34 h'e34 tk'e34 hd0e34 hd1e34 ho'e34 F'e34 N'e34; (try dsimp only); (try k_sweep); (try k_fold))
  exact True.intro
--PART A25aRow
section
local macro_rules | `(tactic| k_all) => `(tactic| assumption)
/-- a NamedRow made -/
structure RwG where
  (fr : Led) (p k u m : Value)
noncomputable def rwPre (g : RwG) (news : Led) (vs : List Value) : Prop := news = g.fr ∧ vs = [g.p, g.k, g.u, g.m] ∧ handedIn g.p = true ∧ handedIn g.k = true ∧ handedIn g.u = true ∧ handedIn g.m = true
noncomputable def rwPost (g : RwG) (news : Led) (v : Value) : Prop := ∃ x d es n, v = .ref x ∧ news = (x, instObj 159 d) :: (d, dictOf es n) :: g.fr ∧ getL (Str.ofString "underlying") es = some (some g.u) ∧ (∀ p ∈ g.fr, p.1 < d) ∧ d < x
/-- a TypedFn made -/
structure FnG where
  (fr : Led) (a b c d e f g : Value)
noncomputable def fnPre (g : FnG) (news : Led) (vs : List Value) : Prop := news = g.fr ∧ vs = [g.a, g.b, g.c, g.d, g.e, g.f, g.g] ∧ handedIn g.a = true ∧ handedIn g.b = true ∧ handedIn g.c = true ∧ handedIn g.d = true ∧ handedIn g.e = true ∧ handedIn g.f = true ∧ handedIn g.g = true
noncomputable def fnPost (g : FnG) (news : Led) (v : Value) : Prop := ∃ x d es n, v = .ref x ∧ news = (x, instObj 90 d) :: (d, dictOf es n) :: g.fr ∧ (getL (Str.ofString "body") es = some (some g.f) ∧ getL (Str.ofString "captured") es = some (some g.e) ∧ getL (Str.ofString "literals") es = some (some g.g)) ∧ (∀ p ∈ g.fr, p.1 < d) ∧ d < x
section
theorem ln33 : True := by
  k_with "mine make" => (k_dflt ((first | with_reducible refine' call_cls ?k1Qz ?k2Qz ?k3Qz ?k4Qz ?k5Qz ?k6Qz ?_ | refine' call_cls ?k1Qz ?k2Qz ?k3Qz ?k4Qz ?k5Qz ?k6Qz ?_); (case k1Qz => k_asm); (case k2Qz => k_asm); (case k3Qz => k_asm); (case k4Qz => k_is); (case k5Qz => k_is); (case k6Qz => k_is); k_whole); (intro x'e150 d'e150 h'e150 F'e150 N'e150 l1e150 l2e150; (try k_lt2 l2e150); (try k_sweep)); k_dflt ((first | with_reducible refine' code_def ?k1Qz ?k2Qz ?k3Qz ?k4Qz ?k5Qz ?kAQz ?kFQz ?kKQz ?k6Qz ?k7Qz ?k8Qz ?k9Qz ?kBQz ?_ ?c2Qz ?c3Qz ?c4Qz ?c5Qz | refine' code_def ?k1Qz ?k2Qz ?k3Qz ?k4Qz ?k5Qz ?kAQz ?kFQz ?kKQz ?k6Qz ?k7Qz ?k8Qz ?k9Qz ?kBQz ?_ ?c2Qz ?c3Qz ?c4Qz ?c5Qz); (case kAQz => exact rfl); (case kFQz => assumption); (case kKQz => assumption); (case k1Qz => k_asm); (case k2Qz => k_asm); (case k3Qz => k_asm); (case k4Qz => k_asm); (case k5Qz => k_asm); (case k6Qz => k_is); (case k7Qz => k_is); (case k8Qz => ktr_room); (case k9Qz => exact BindsTo.of_eq rfl); (case c5Qz => decide); (case kBQz => exact locs rfl); (case c2Qz => exact rfl); (case c3Qz => exact rfl); (case c4Qz => exact rfl); k_whole; intro g'e150 L'e150 h'e150 FG'e150 F'e150 N'e150 B'e150 X'e150 T'e150; (try dsimp only); (try k_fold)))
  exact True.intro
set_option maxRecDepth 100000 in
set_option maxHeartbeats 8000000 in
theorem row_con (w : World) : Con w 159 460 5700 rwPre rwPost := by
  unfold Con
  k_fill
  rintro ⟨fr, p, k, u, me⟩ mean mg mb env outer gd A₀ base h₀ L m news s vs Q E B F X N T hf hk ⟨rfl, rfl, hp1, hp2, hp3, hp4⟩ hret
  try dsimp only at *
  k_extra "mine make"
  rename ∀ p ∈ news, p.1 < _ => hlt9
  rename _ < _ => hlx9
  k_steps
  exact hret _ _ _ _ (by k_asm) (by k_asm) ⟨_, _, _, _, rfl, rfl, rfl, hlt9, hlx9⟩
set_option maxRecDepth 100000 in
set_option maxHeartbeats 8000000 in
theorem fn_con (w : World) : Con w 90 460 5700 fnPre fnPost := by
  unfold Con
  k_fill
  rintro ⟨fr, a, b, c, d, e, f, g⟩ mean mg mb env outer gd A₀ base h₀ L m news s vs Q E B F X N T hf hk ⟨rfl, rfl, hp1, hp2, hp3, hp4, hp5, hp6, hp7⟩ hret
  try dsimp only at *
  k_extra "mine make"
  rename ∀ p ∈ news, p.1 < _ => hlt9
  rename _ < _ => hlx9
  k_steps
  exact hret _ _ _ _ (by k_asm) (by k_asm) ⟨_, _, _, _, rfl, rfl, ⟨rfl, rfl, rfl⟩, hlt9, hlx9⟩
end
section
variable {w : World} {fr : Led} {mean : ExcName → Option Value} {mg mb : Str → Option Value} {A : Around} {env : Env} {outer : List Env} {A₀ : Around} {base h₀ : Heap} {L : Addr} {m : Str → Option Value} {s : Shared} {Q E : Value → Shared → Prop}
theorem row_use {p k u me : Value}
    (B : Below A₀ base outer h₀) (F : Fr h₀ L s.heap m) (X : (hd.heap_39 w.params).In h₀) (N : News h₀ L s.heap fr) (T : Top hd.view_39 (looseW hd.view_39 [Str.ofString "ChanError"]) mean mg mb h₀)
    (a3 : A.frames = some (env :: outer)) (hf : env.frame = some L) (hk : env.scope.kind = .function) (a1 : A.handled = none) (a2 : A.depth ≤ 460) (a4 : A.units ≤ 5700)
    (h1 : handedIn p = true) (h2 : handedIn k = true) (h3 : handedIn u = true) (h4 : handedIn me = true)
    (kk : ∀ x d es n h' tk', getL (Str.ofString "underlying") es = some (some u) → (∀ p ∈ fr, p.1 < d) → d < x → Fr h₀ L h' m → News h₀ L h' ((x, instObj 159 d) :: (d, dictOf es n) :: fr) → Q (.ref x) { s with heap := h', toks := tk' }) :
    wpAny (model PySem.Challenge.rw_on0017_01.row.prog w) A (call (.ref 159) [p, k, u, me]) Q E s :=
  (row_con w).use ⟨fr, p, k, u, me⟩ B F X N T hf hk a1 a2 a3 a4 (fun _ m => m) ⟨rfl, rfl, h1, h2, h3, h4⟩ (fun v news' h' tk' F' N' hp => by
    obtain ⟨x, d, es, n, rfl, rfl, q1, q2, q3⟩ := hp
    exact kk x d es n _ _ q1 q2 q3 F' N')
theorem row_drop {p k u me : Value}
    (B : Below A₀ base outer h₀) (F : Fr h₀ L s.heap m) (X : (hd.heap_39 w.params).In h₀) (N : News h₀ L s.heap fr) (T : Top hd.view_39 (looseW hd.view_39 [Str.ofString "ChanError"]) mean mg mb h₀)
    (a3 : A.frames = some (env :: outer)) (hf : env.frame = some L) (hk : env.scope.kind = .function) (a1 : A.handled = none) (a2 : A.depth ≤ 460) (a4 : A.units ≤ 5700)
    (h1 : handedIn p = true) (h2 : handedIn k = true) (h3 : handedIn u = true) (h4 : handedIn me = true)
    (kk : ∀ x h' tk', Fr h₀ L h' m → News h₀ L h' fr → Q (.ref x) { s with heap := h', toks := tk' }) :
    wpAny (model PySem.Challenge.rw_on0017_01.row.prog w) A (call (.ref 159) [p, k, u, me]) Q E s :=
  row_use B F X N T a3 hf hk a1 a2 a4 h1 h2 h3 h4 fun x d es n h' tk' _ _ _ F' N' => kk x h' tk' F' fun p mm => N' p (.tail _ (.tail _ mm))
theorem fn_use {va vb vc vd ve vf vg : Value}
    (B : Below A₀ base outer h₀) (F : Fr h₀ L s.heap m) (X : (hd.heap_39 w.params).In h₀) (N : News h₀ L s.heap fr) (T : Top hd.view_39 (looseW hd.view_39 [Str.ofString "ChanError"]) mean mg mb h₀)
    (a3 : A.frames = some (env :: outer)) (hf : env.frame = some L) (hk : env.scope.kind = .function) (a1 : A.handled = none) (a2 : A.depth ≤ 460) (a4 : A.units ≤ 5700)
    (h1 : handedIn va = true) (h2 : handedIn vb = true) (h3 : handedIn vc = true) (h4 : handedIn vd = true) (h5 : handedIn ve = true) (h6 : handedIn vf = true) (h7 : handedIn vg = true)
    (kk : ∀ x d es n h' tk', (getL (Str.ofString "body") es = some (some vf) ∧ getL (Str.ofString "captured") es = some (some ve) ∧ getL (Str.ofString "literals") es = some (some vg)) → (∀ p ∈ fr, p.1 < d) → d < x → Fr h₀ L h' m → News h₀ L h' ((x, instObj 90 d) :: (d, dictOf es n) :: fr) → Q (.ref x) { s with heap := h', toks := tk' }) :
    wpAny (model PySem.Challenge.rw_on0017_01.row.prog w) A (call (.ref 90) [va, vb, vc, vd, ve, vf, vg]) Q E s :=
  (fn_con w).use ⟨fr, va, vb, vc, vd, ve, vf, vg⟩ B F X N T hf hk a1 a2 a3 a4 (fun _ m => m) ⟨rfl, rfl, h1, h2, h3, h4, h5, h6, h7⟩ (fun v news' h' tk' F' N' hp => by
    obtain ⟨x, d, es, n, rfl, rfl, q1, q2, q3⟩ := hp
    exact kk x d es n _ _ q1 q2 q3 F' N')
end

end
theorem ln34 : True := by
  k_with_none
  k_with "eval Name" => (k_here; (with_reducible show wpAny _ _ (eval (PySem.Expr.Name _ _) (envOf _ _ _ _ _)) _ _ _); name_kind "globalImplicit"; k_dflt ((with_reducible refine' name_K ?k0Qz ?k1Qz ?k2Qz ?k3Qz ?_ ?aQz ?bQz ?cQz); (case k0Qz => with_reducible assumption); (case k1Qz => with_reducible assumption); (case k2Qz => k_asm); (case k3Qz => k_is); (case aQz => exact rfl); (case bQz => kernel_rfl!); (case cQz => decide +kernel); k_whole))
  k_with "eval Name" => (k_here; (with_reducible show wpAny _ _ (eval (PySem.Expr.Name _ _) (envOf _ _ _ _ _)) _ _ _); name_kind "globalImplicit"; name_is_builtin; k_dflt ((with_reducible refine' name_B ?k0Qz ?k1Qz ?k2Qz ?k3Qz ?k4Qz ?k5Qz ?_ ?aQz ?bQz ?cQz); (case k0Qz => with_reducible assumption); (case k1Qz => with_reducible assumption); (case k2Qz => k_asm); (case k3Qz => k_is); (case k4Qz => boot_fast); (case k5Qz => decide +kernel); (case aQz => exact rfl); (case bQz => kernel_rfl!); (case cQz => decide +kernel); k_whole))
  k_with "eval Name" => (k_here; (with_reducible show wpAny _ _ (eval (PySem.Expr.Name _ _) (envOf _ _ _ _ _)) _ _ _); name_kind "local"; k_dflt ((with_reducible refine' ld ?k1Qz ?k2Qz ?_ ?aQz ?bQz ?cQz); (case k1Qz => with_reducible assumption); (case aQz => exact rfl); (case bQz => kernel_rfl!); (case cQz => decide +kernel); (case k2Qz => exact rfl); k_whole))
  k_with "eval Name" => (k_here; (with_reducible show wpAny _ _ (eval (PySem.Expr.Name _ _) (envOfC _ _ _ _ _)) _ _ _); k_dflt first | (name_kind "local"; (with_reducible refine' nameC_L ?FQz ?vQz ?_ ?aQz ?bQz ?cQz); (case FQz => with_reducible assumption); (case aQz => exact rfl); (case bQz => kernel_rfl!); (case cQz => decide +kernel); (case vQz => first | exact rfl | assumption); k_whole) | (name_kind "cell"; (with_reducible refine' nameC_C ?NQz ?kQz ?mQz ?dQz ?_ ?aQz ?bQz ?cQz); (case aQz => exact rfl); (case bQz => kernel_rfl!); (case cQz => decide +kernel); (case NQz => with_reducible assumption); (case kQz => exact rfl); (case mQz => k_mem); (case dQz => k_asm); k_whole) | (name_kind "globalImplicit"; name_is_builtin; (with_reducible refine' nameC_B ?FQz ?XQz ?TQz ?eQz ?vQz ?nQz ?_ ?aQz ?bQz ?cQz); (case FQz => with_reducible assumption); (case XQz => with_reducible assumption); (case TQz => k_asm); (case aQz => exact rfl); (case bQz => kernel_rfl!); (case cQz => decide +kernel); (case eQz => k_is); (case vQz => boot_fast); (case nQz => decide +kernel); k_whole) | (name_kind "globalImplicit"; (with_reducible refine' nameC_K ?FQz ?XQz ?TQz ?eQz ?_ ?aQz ?bQz ?cQz); (case FQz => with_reducible assumption); (case XQz => with_reducible assumption); (case TQz => k_asm); (case aQz => exact rfl); (case bQz => kernel_rfl!); (case cQz => decide +kernel); (case eQz => k_is); k_whole))
  k_with "eval Name" => (k_here; (with_reducible show wpAny _ _ (eval (PySem.Expr.Name _ _) (compEnvC _ _ _ _)) _ _ _); k_dflt first | (name_kind "local"; (with_reducible refine' LCgL.ld_own ?NQz ?mQz ?CQz ?xQz ?_ ?aQz ?bQz ?cQz); (case NQz => with_reducible assumption); (case mQz => k_mem); (case CQz => with_reducible assumption); (case xQz => assumption); (case aQz => exact rfl); (case bQz => kernel_rfl!); (case cQz => decide +kernel); k_whole) | (name_kind "globalImplicit"; name_is_builtin; (with_reducible refine' LCgL.ld_built ?FQz ?XQz ?TQz ?eQz ?vQz ?nQz ?_ ?gQz ?hQz ?aQz ?bQz ?cQz); (case FQz => with_reducible assumption); (case XQz => with_reducible assumption); (case TQz => with_reducible assumption); (case gQz => exact rfl); (case hQz => exact rfl); (case aQz => exact rfl); (case bQz => kernel_rfl!); (case cQz => decide +kernel); (case eQz => k_is); (case vQz => boot_fast); (case nQz => decide +kernel); k_whole) | (name_kind "globalImplicit"; (with_reducible refine' LCgL.ld_global ?FQz ?XQz ?TQz ?eQz ?_ ?gQz ?aQz ?bQz ?cQz); (case FQz => with_reducible assumption); (case XQz => with_reducible assumption); (case TQz => with_reducible assumption); (case gQz => exact rfl); (case aQz => exact rfl); (case bQz => kernel_rfl!); (case cQz => decide +kernel); (case eQz => k_is); k_whole) | (name_kind "free"; (with_reducible refine' lcf_free ?NQz ?kQz ?mQz ?dQz ?_ ?aQz ?bQz ?cQz ?eQz); (case aQz => exact rfl); (case bQz => kernel_rfl!); (case cQz => decide +kernel); (case eQz => decide +kernel); (case NQz => with_reducible assumption); (case kQz => exact rfl); (case mQz => k_mem); (case dQz => k_asm); k_whole))
  k_with "newTuple" => (k_here; k_dflt ((with_reducible refine' kup_newTuple ?FQz ?NQz ?_ ?zQz); (case FQz => with_reducible assumption); (case NQz => with_reducible assumption); (case zQz => first | exact Nat.le_of_ble_eq_true rfl | kmk_size)); intro D'e5 h'e5 F'e5 N'e5 l1e5; (try k_sweep))
  k_with "newList" => (k_here; k_dflt ((with_reducible refine' newList_K ?FQz ?NQz ?_ ?zQz); (case FQz => with_reducible assumption); (case NQz => with_reducible assumption); (case zQz => first | exact Nat.le_of_ble_eq_true rfl | size_fits)); intro D'e6 h'e6 F'e6 N'e6 l1e6; (try k_sweep))
  k_with "And" => ((with_reducible show Frag.In _ _ ∧ _); refine' And.intro ?kQz ?_; (case kQz => k_dflt (first | with_reducible assumption | (refine' Frag.In.keeps ?xQz (Fr.keep ?fQz); (case fQz => with_reducible assumption); (case xQz => with_reducible assumption)) | k_in)); (try dsimp only [List.nil_append, List.cons_append]))
  k_with "execs cons" => (k_here; (try k_gentoks); (with_reducible refine' wpAny_execs_cons ?_); (try dsimp only); (try k_fold))
  k_with "ite" => (k_closed; first | (with_reducible refine' ite_tt ?_) | (with_reducible refine' ite_ff ?_) | ((with_reducible refine' ite_neg ?hQz ?_); (case hQz => decide +kernel)) | ((with_reducible refine' ite_pos ?hQz ?_); (case hQz => decide +kernel)))
  k_with "spliced" => k_dflt ((first | (with_reducible refine' args_cons (env := envOf _ _ _ _ _) ?_ ?heQz) | (with_reducible refine' args_cons (env := envOfC _ _ _ _ _) ?_ ?heQz)); (case heQz => exact rfl))
  k_with "eval Call" => k_dflt ((first | (with_reducible refine' Call_ (env := envOf _ _ _ _ _) ?_ ?heQz) | (with_reducible refine' Call_ (env := envOfC _ _ _ _ _) ?_ ?heQz)); (case heQz => exact rfl))
  k_with "exec Assign" => k_dflt ((first | (with_reducible refine' wpAny_Assign_Name (env := envOf _ _ _ _ _) ?_ ?heQz) | (with_reducible refine' wpAny_Assign_Name (env := envOfC _ _ _ _ _) ?_ ?heQz)); (case heQz => exact rfl); (try k_fold))
  k_with "callWith ref" => (k_here; k_dflt first | ((with_reducible refine' callWith_K ?k1Qz ?k2Qz ?_ ?heQz ?hpQz); (case k1Qz => with_reducible assumption); (case k2Qz => k_is); (case heQz => exact rfl); (case hpQz => exact rfl); k_whole) | ((with_reducible refine' callWith_K0 ?k1Qz ?k2Qz ?_); (case k1Qz => (first | with_reducible assumption | (refine' Frag.In.keeps ?xQz (Fr.keep ?fQz); (case fQz => with_reducible assumption); (case xQz => with_reducible assumption)) | k_in)); (case k2Qz => k_is); k_whole))
  k_with "storeName" => (k_here; k_dflt first | ((with_reducible refine' stN ?FQz ?NQz ?_ ?aQz ?bQz); (case FQz => with_reducible assumption); (case NQz => with_reducible assumption); (case aQz => exact rfl); (case bQz => kernel_rfl!); k_whole; intro h'e14 F'e14 N'e14; (try k_sweep)) | (name_kind "local"; (with_reducible refine' storeC_L ?FQz ?NQz ?_ ?aQz ?bQz); (case FQz => with_reducible assumption); (case NQz => with_reducible assumption); (case aQz => exact rfl); (case bQz => kernel_rfl!); k_whole; intro h'e14 F'e14 N'e14; (try k_sweep)))
  k_with "mine room" => first | exact Nat.le_of_ble_eq_true rfl | ((try simp only [recursionLimit]); (try dsimp only [Around.deeper, Around.in1, Around.mark, rnd]); first | exact room_le (by with_reducible assumption) rfl | omega) | fail "mine"
  k_with "mine enter" => (refine wpAny_call ?_; k_dflt ((with_reducible refine' code_def ?k1Qz ?k2Qz ?k3Qz ?k4Qz ?k5Qz ?kAQz ?kFQz ?kKQz ?k6Qz ?k7Qz ?k8Qz ?k9Qz ?kBQz ?_ ?c2Qz ?c3Qz ?c4Qz ?c5Qz); (case kAQz => exact rfl); (case kFQz => assumption); (case kKQz => assumption); (case k1Qz => k_asm); (case k2Qz => k_asm); (case k3Qz => k_asm); (case k4Qz => k_asm); (case k5Qz => k_asm); (case k6Qz => k_is); (case k7Qz => k_is); (case k8Qz => ktr_room); (case k9Qz => exact BindsTo.of_eq rfl); (case c5Qz => decide); (case kBQz => exact locs rfl); (case c2Qz => exact rfl); (case c3Qz => exact rfl); (case c4Qz => exact rfl); k_whole; intro g'e16 L'e16 h'e16 FG'e16 F'e16 N'e16 B'e16 X'e16 T'e16; (try dsimp only); (try k_fold)))
  k_with "mine pick" => first | exact Pick.head | (refine' Pick.tail ?pkQz; (case pkQz => k_extra "mine pick")) | fail "mine"
  k_with "mine mem" => first | with_reducible assumption | exact mem_hd | (refine' mem_tl ?pmQz; (case pmQz => k_extra "mine mem")) | (refine' Sub.mem ?pgQz ?pmQz; (case pgQz => with_reducible assumption); (case pmQz => k_extra "mine mem")) | (refine' Grow.mem ?pgQz ?pmQz; (case pgQz => with_reducible assumption); (case pmQz => k_extra "mine mem")) | fail "mine"
  k_with "mine at" => first | (with_reducible exact at_hd) | ((with_reducible refine' at_tl ?pmQz); (case pmQz => k_extra "mine at")) | fail "mine"
  k_with "mine pj" => first | with_reducible assumption | exact pj_l (by with_reducible assumption) | exact pj_l (pj_r (by with_reducible assumption)) | exact pj_r (by with_reducible assumption) | exact pj_l (pj_2 (by with_reducible assumption)) | exact pj_2 (by with_reducible assumption) | exact pj_l (pj_2 (pj_r (by with_reducible assumption))) | exact pj_2 (pj_r (by with_reducible assumption)) | exact pj_l (pj_4 (by with_reducible assumption)) | exact pj_4 (by with_reducible assumption) | exact pj_l (pj_4 (pj_r (by with_reducible assumption))) | exact pj_4 (pj_r (by with_reducible assumption)) | exact pj_l (pj_4 (pj_2 (by with_reducible assumption))) | exact pj_4 (pj_2 (by with_reducible assumption)) | exact pj_l (pj_4 (pj_2 (pj_r (by with_reducible assumption)))) | exact pj_4 (pj_2 (pj_r (by with_reducible assumption))) | exact pj_l (pj_8 (by with_reducible assumption)) | exact pj_8 (by with_reducible assumption) | exact pj_l (pj_8 (pj_r (by with_reducible assumption))) | exact pj_8 (pj_r (by with_reducible assumption)) | exact pj_l (pj_8 (pj_2 (by with_reducible assumption))) | exact pj_8 (pj_2 (by with_reducible assumption)) | exact pj_l (pj_8 (pj_2 (pj_r (by with_reducible assumption)))) | exact pj_8 (pj_2 (pj_r (by with_reducible assumption))) | exact pj_l (pj_8 (pj_4 (by with_reducible assumption))) | exact pj_8 (pj_4 (by with_reducible assumption)) | exact pj_l (pj_8 (pj_4 (pj_r (by with_reducible assumption)))) | exact pj_8 (pj_4 (pj_r (by with_reducible assumption))) | exact pj_l (pj_8 (pj_4 (pj_2 (by with_reducible assumption)))) | exact pj_8 (pj_4 (pj_2 (by with_reducible assumption))) | exact pj_l (pj_8 (pj_4 (pj_2 (pj_r (by with_reducible assumption))))) | exact pj_8 (pj_4 (pj_2 (pj_r (by with_reducible assumption)))) | exact pj_l (pj_16 (by with_reducible assumption)) | exact pj_16 (by with_reducible assumption) | exact pj_l (pj_16 (pj_r (by with_reducible assumption))) | exact pj_16 (pj_r (by with_reducible assumption)) | exact pj_l (pj_16 (pj_2 (by with_reducible assumption))) | exact pj_16 (pj_2 (by with_reducible assumption)) | exact pj_l (pj_16 (pj_2 (pj_r (by with_reducible assumption)))) | exact pj_16 (pj_2 (pj_r (by with_reducible assumption))) | exact pj_l (pj_16 (pj_4 (by with_reducible assumption))) | exact pj_16 (pj_4 (by with_reducible assumption)) | exact pj_l (pj_16 (pj_4 (pj_r (by with_reducible assumption)))) | exact pj_16 (pj_4 (pj_r (by with_reducible assumption))) | exact pj_l (pj_16 (pj_4 (pj_2 (by with_reducible assumption)))) | exact pj_16 (pj_4 (pj_2 (by with_reducible assumption))) | exact pj_l (pj_16 (pj_4 (pj_2 (pj_r (by with_reducible assumption))))) | exact pj_16 (pj_4 (pj_2 (pj_r (by with_reducible assumption)))) | exact pj_l (pj_16 (pj_8 (by with_reducible assumption))) | exact pj_16 (pj_8 (by with_reducible assumption)) | exact pj_l (pj_16 (pj_8 (pj_r (by with_reducible assumption)))) | exact pj_16 (pj_8 (pj_r (by with_reducible assumption))) | exact pj_l (pj_16 (pj_8 (pj_2 (by with_reducible assumption)))) | exact pj_16 (pj_8 (pj_2 (by with_reducible assumption))) | exact pj_l (pj_16 (pj_8 (pj_2 (pj_r (by with_reducible assumption))))) | exact pj_16 (pj_8 (pj_2 (pj_r (by with_reducible assumption)))) | exact pj_l (pj_16 (pj_8 (pj_4 (by with_reducible assumption)))) | exact pj_16 (pj_8 (pj_4 (by with_reducible assumption))) | exact pj_l (pj_16 (pj_8 (pj_4 (pj_r (by with_reducible assumption))))) | exact pj_16 (pj_8 (pj_4 (pj_r (by with_reducible assumption)))) | exact pj_l (pj_16 (pj_8 (pj_4 (pj_2 (by with_reducible assumption))))) | exact pj_16 (pj_8 (pj_4 (pj_2 (by with_reducible assumption)))) | exact pj_l (pj_16 (pj_8 (pj_4 (pj_2 (pj_r (by with_reducible assumption)))))) | exact pj_16 (pj_8 (pj_4 (pj_2 (pj_r (by with_reducible assumption))))) | fail "mine"
  k_with "mine new" => first | ((with_reducible refine' ne_new ?hQz ?mQz); (case hQz => with_reducible assumption); (case mQz => k_extra "mine at")) | ((with_reducible refine' ne_new' ?hQz ?mQz); (case hQz => with_reducible assumption); (case mQz => k_extra "mine at")) | ((with_reducible refine' Nat.ne_of_lt ?hQz); (case hQz => k_extra "mine pj")) | ((with_reducible refine' Nat.ne_of_gt ?hQz); (case hQz => k_extra "mine pj")) | fail "mine"
  k_with "mine ne" => first | assumption | (refine Ne.symm ?_; assumption) | k_extra "mine new" | (refine neN ?_; (try dsimp only); first | k_extra "mine new" | omega) | fail "mine"
  k_with "mine off" => first | with_reducible assumption | exact Off.nil | (refine Off.tup ?_; k_extra "mine off") | (refine Off.ne ?_ ?_; (k_extra "mine ne"); (k_extra "mine off")) | fail "mine"
  k_with "mine sub" => first | with_reducible assumption | exact Sub.refl | (refine Sub.tl ?_; k_extra "mine sub") | (refine' Sub.gr ?pgQz ?pkQz; (case pgQz => with_reducible assumption); (case pkQz => k_extra "mine sub")) | fail "mine"
  k_with "call ref" => (k_here; (with_reducible show wpAny _ _ (call (Value.ref 220) [Value.ref _, Value.int _ _]) _ _ _); k_dflt ((with_reducible refine' take_use ?k1Qz ?k2Qz ?k3Qz ?k4Qz ?k5Qz ?a3Qz ?hfQz ?hkQz ?a1Qz ?a2Qz ?a4Qz ?hsQz ?hoQz ?htQz ?offQz ?_); (case k1Qz => k_asm); (case k2Qz => k_asm); (case k3Qz => k_asm); (case k4Qz => k_asm); (case k5Qz => k_asm); (case a3Qz => exact rfl); (case hfQz => exact rfl); (case hkQz => exact rfl); (case a1Qz => exact rfl); (case a2Qz => k_extra "mine room"); (case a4Qz => k_extra "mine room"); (case hoQz => assumption); (case hsQz => k_extra "mine pick"); (case htQz => exact ⟨by decide, by decide⟩); (case offQz => k_extra "mine off")); intro d'e34 td'e34 o'e34 h'e34 tk'e34 hd0e34 hd1e34 ho'e34 F'e34 N'e34; (try dsimp only); (try k_sweep); (try k_fold))
  exact True.intro
--PART A25bKnown
section
local macro_rules | `(tactic| k_all) => `(tactic| assumption)
noncomputable def knPre (fr : Led) (news : Led) (vs : List Value) : Prop := news = fr ∧ vs = []
noncomputable def knPost (w : World) (fr : Led) (news : Led) (v : Value) : Prop := ∃ d o kvs, v = .ref d ∧ news = (d, o) :: fr ∧ (d == sysModules) = false ∧ (∀ p ∈ fr, p.1 < d) ∧ o.IsDictOf (PySem.strKind PySem.Challenge.rw_on0017_01.row.prog w) kvs ∧ kvs.length ≤ 4
section
variable {prog : Program} {w : World} {A : Around} {E : Value → Shared → Prop} {s : Shared} {h₀ : Heap} {L d : Addr} {m : Str → Option Value} {news : Led} {o : Obj} {Q : Value → Shared → Prop}
theorem tup_drop {M : Model} {vs : List Value} (F : Fr h₀ L s.heap m) (N : News h₀ L s.heap news) (hz : vs.length ≤ sizeLine) (h : ∀ D h', Fr h₀ L h' m → News h₀ L h' news → Q (.ref D) { s with heap := h' }) : wpAny M A (newTuple vs) Q E s :=
  kup_newTuple F N (fun D h' F' N' _ => h D h' F' fun p mm => N' p (.tail _ mm)) hz
theorem dict0_drop {env : Env} {pos : Pos} (F : Fr h₀ L s.heap m) (N : News h₀ L s.heap news) (hbig : h₀.NoLimit) (h : ∀ d h', Fr h₀ L h' m → News h₀ L h' news → Q (.ref d) { s with heap := h' }) : wpAny (model prog w) A (eval (.Dict [] [] pos) env) Q E s :=
  newDict_K F N hbig fun d h' _ F' N' _ _ _ _ _ _ => h d h' F' fun p mm => N' p (.tail _ mm)
theorem kdn_drop {vs : List (Value × Value)} (F : Fr h₀ L s.heap m) (N : News h₀ L s.heap ((d, o) :: news)) (lt : ∀ p ∈ news, p.1 < d) (hd : o.IsDictOf (PySem.strKind prog w) []) (hk : allStrKeys vs = true) (hn : ((strPairs vs).map (·.1)).Nodup)
    (h : ∀ h', Fr h₀ L h' m → News h₀ L h' news → Q (.ref d) { s with heap := h', toks := s.toks + vs.length }) : KdnMade prog w (PySem.strKind prog w) d Q vs s :=
  kdn_made_str F N (UpdF.head fun p hp => Nat.ne_of_lt (lt p hp)) hd hk hn fun h' o' F' N' _ => h h' F' fun p mm => N' p (.tail _ mm)
theorem kdn_keep {vs : List (Value × Value)} (F : Fr h₀ L s.heap m) (N : News h₀ L s.heap ((d, o) :: news)) (lt : ∀ p ∈ news, p.1 < d) (hd : o.IsDictOf (PySem.strKind prog w) []) (hk : allStrKeys vs = true) (hn : ((strPairs vs).map (·.1)).Nodup)
    (h : ∀ h' o', o'.IsDictOf (PySem.strKind prog w) (strPairs vs) → Fr h₀ L h' m → News h₀ L h' ((d, o') :: news) → Q (.ref d) { s with heap := h', toks := s.toks + vs.length }) : KdnMade prog w (PySem.strKind prog w) d Q vs s :=
  kdn_made_str F N (UpdF.head fun p hp => Nat.ne_of_lt (lt p hp)) hd hk hn fun h' o' F' N' hd' => h h' o' hd' F' N'
end
section
theorem ln35 : True := by
  k_with "newTuple" => (k_here; k_dflt ((first | with_reducible refine' tup_drop ?FQz ?NQz ?zQz ?_ | refine' tup_drop ?FQz ?NQz ?zQz ?_); (case FQz => k_asm); (case NQz => k_asm); (case zQz => kmk_size)); intro D'e151 h'e151 F'e151 N'e151; (try k_sweep))
  k_with "eval Dict" => (k_here; k_dflt ((first | with_reducible refine' kdn_str ?qQz ?FQz ?NQz ?bQz ?aQz ?lQz ?eQz ?nQz ?_ | refine' kdn_str ?qQz ?FQz ?NQz ?bQz ?aQz ?lQz ?eQz ?nQz ?_); (case qQz => rfl); (case FQz => k_asm); (case NQz => k_asm); (case bQz => exact Top.nolimit (by k_asm)); (case aQz => rfl); (case lQz => rfl); (case eQz => exact List.cons_ne_nil _ _); (case nQz => exact Nat.le_of_ble_eq_true rfl)); intro d'e152 h'e152 o'e152 F'e152 N'e152 l1e152 lo'e152 hd'e152; (try k_sweep))
  k_with "eval Dict nil nil" => (k_here; k_dflt ((first | with_reducible refine' dict0_drop ?FQz ?NQz ?bQz ?_ | refine' dict0_drop ?FQz ?NQz ?bQz ?_); (case FQz => k_asm); (case NQz => k_asm); (case bQz => exact Top.nolimit (by k_asm))); intro d'e153 h'e153 F'e153 N'e153; (try k_sweep))
  k_with "KdnMade" => (k_here; k_dflt ((first | with_reducible refine' kdn_drop ?FQz ?NQz ?ltQz ?dQz ?kQz ?nQz ?_ | refine' kdn_drop ?FQz ?NQz ?ltQz ?dQz ?kQz ?nQz ?_); (case FQz => k_asm); (case NQz => k_asm); (case ltQz => assumption); (case dQz => k_asm); (case kQz => rfl); (case nQz => exact of_decide_eq_true (by first | rfl | kernel_rfl!)); intro h'e154 F'e154 N'e154); (try k_sweep))
  k_with "KdnMade" => (k_here; (with_reducible show KdnMade _ _ _ _ _ [_, _, _, _] _); k_dflt ((first | with_reducible refine' kdn_keep ?FQz ?NQz ?ltQz ?dQz ?kQz ?nQz ?_ | refine' kdn_keep ?FQz ?NQz ?ltQz ?dQz ?kQz ?nQz ?_); (case FQz => k_asm); (case NQz => k_asm); (case ltQz => assumption); (case dQz => k_asm); (case kQz => rfl); (case nQz => exact of_decide_eq_true (by first | rfl | kernel_rfl!)); intro h'e155 o'e155 hd'e155 F'e155 N'e155); (try k_sweep))
  k_with "call ref" => (k_here; (with_reducible show wpAny _ _ (call (Value.ref 159) _) _ _ _); k_dflt ((first | with_reducible refine' row_drop ?k1Qz ?k2Qz ?k3Qz ?k4Qz ?k5Qz ?a3Qz ?hfQz ?hkQz ?a1Qz ?a2Qz ?a4Qz ?h1Qz ?h2Qz ?h3Qz ?h4Qz ?_ | refine' row_drop ?k1Qz ?k2Qz ?k3Qz ?k4Qz ?k5Qz ?a3Qz ?hfQz ?hkQz ?a1Qz ?a2Qz ?a4Qz ?h1Qz ?h2Qz ?h3Qz ?h4Qz ?_); (case k1Qz => k_asm); (case k2Qz => k_asm); (case k3Qz => k_asm); (case k4Qz => k_asm); (case k5Qz => k_asm); (case a3Qz => exact rfl); (case hfQz => exact rfl); (case hkQz => exact rfl); (case a1Qz => exact rfl); (case a2Qz => k_extra "mine room"); (case a4Qz => k_extra "mine room"); (case h1Qz => exact rfl); (case h2Qz => exact rfl); (case h3Qz => exact rfl); (case h4Qz => exact rfl)); intro x'e156 h'e156 tk'e156 F'e156 N'e156; (try dsimp only); (try k_sweep); (try k_fold))
  exact True.intro
set_option maxRecDepth 100000 in
set_option maxHeartbeats 8000000 in
theorem known_con (w : World) : Con w 170 450 5600 knPre (knPost w) := by
  unfold Con
  k_fill
  rintro fr mean mg mb env outer gd A₀ base h₀ L m news s vs Q E B F X N T hf hk ⟨rfl, rfl⟩ hret
  try dsimp only at *
  k_extra "mine enter"
  k_steps
  (rename Obj.IsDictOf _ _ _ => hd9)
  refine hret _ _ _ _ (by k_asm) (by k_asm) ⟨_, _, _, rfl, rfl, by assumption, by assumption, hd9, Nat.le_of_ble_eq_true rfl⟩
end

end
theorem ln36 : True := by
  k_with_none
  k_with "eval Name" => (k_here; (with_reducible show wpAny _ _ (eval (PySem.Expr.Name _ _) (envOf _ _ _ _ _)) _ _ _); name_kind "globalImplicit"; k_dflt ((with_reducible refine' name_K ?k0Qz ?k1Qz ?k2Qz ?k3Qz ?_ ?aQz ?bQz ?cQz); (case k0Qz => with_reducible assumption); (case k1Qz => with_reducible assumption); (case k2Qz => k_asm); (case k3Qz => k_is); (case aQz => exact rfl); (case bQz => kernel_rfl!); (case cQz => decide +kernel); k_whole))
  k_with "eval Name" => (k_here; (with_reducible show wpAny _ _ (eval (PySem.Expr.Name _ _) (envOf _ _ _ _ _)) _ _ _); name_kind "globalImplicit"; name_is_builtin; k_dflt ((with_reducible refine' name_B ?k0Qz ?k1Qz ?k2Qz ?k3Qz ?k4Qz ?k5Qz ?_ ?aQz ?bQz ?cQz); (case k0Qz => with_reducible assumption); (case k1Qz => with_reducible assumption); (case k2Qz => k_asm); (case k3Qz => k_is); (case k4Qz => boot_fast); (case k5Qz => decide +kernel); (case aQz => exact rfl); (case bQz => kernel_rfl!); (case cQz => decide +kernel); k_whole))
  k_with "eval Name" => (k_here; (with_reducible show wpAny _ _ (eval (PySem.Expr.Name _ _) (envOf _ _ _ _ _)) _ _ _); name_kind "local"; k_dflt ((with_reducible refine' ld ?k1Qz ?k2Qz ?_ ?aQz ?bQz ?cQz); (case k1Qz => with_reducible assumption); (case aQz => exact rfl); (case bQz => kernel_rfl!); (case cQz => decide +kernel); (case k2Qz => exact rfl); k_whole))
  k_with "eval Name" => (k_here; (with_reducible show wpAny _ _ (eval (PySem.Expr.Name _ _) (envOfC _ _ _ _ _)) _ _ _); k_dflt first | (name_kind "local"; (with_reducible refine' nameC_L ?FQz ?vQz ?_ ?aQz ?bQz ?cQz); (case FQz => with_reducible assumption); (case aQz => exact rfl); (case bQz => kernel_rfl!); (case cQz => decide +kernel); (case vQz => first | exact rfl | assumption); k_whole) | (name_kind "cell"; (with_reducible refine' nameC_C ?NQz ?kQz ?mQz ?dQz ?_ ?aQz ?bQz ?cQz); (case aQz => exact rfl); (case bQz => kernel_rfl!); (case cQz => decide +kernel); (case NQz => with_reducible assumption); (case kQz => exact rfl); (case mQz => k_mem); (case dQz => k_asm); k_whole) | (name_kind "globalImplicit"; name_is_builtin; (with_reducible refine' nameC_B ?FQz ?XQz ?TQz ?eQz ?vQz ?nQz ?_ ?aQz ?bQz ?cQz); (case FQz => with_reducible assumption); (case XQz => with_reducible assumption); (case TQz => k_asm); (case aQz => exact rfl); (case bQz => kernel_rfl!); (case cQz => decide +kernel); (case eQz => k_is); (case vQz => boot_fast); (case nQz => decide +kernel); k_whole) | (name_kind "globalImplicit"; (with_reducible refine' nameC_K ?FQz ?XQz ?TQz ?eQz ?_ ?aQz ?bQz ?cQz); (case FQz => with_reducible assumption); (case XQz => with_reducible assumption); (case TQz => k_asm); (case aQz => exact rfl); (case bQz => kernel_rfl!); (case cQz => decide +kernel); (case eQz => k_is); k_whole))
  k_with "eval Name" => (k_here; (with_reducible show wpAny _ _ (eval (PySem.Expr.Name _ _) (compEnvC _ _ _ _)) _ _ _); k_dflt first | (name_kind "local"; (with_reducible refine' LCgL.ld_own ?NQz ?mQz ?CQz ?xQz ?_ ?aQz ?bQz ?cQz); (case NQz => with_reducible assumption); (case mQz => k_mem); (case CQz => with_reducible assumption); (case xQz => assumption); (case aQz => exact rfl); (case bQz => kernel_rfl!); (case cQz => decide +kernel); k_whole) | (name_kind "globalImplicit"; name_is_builtin; (with_reducible refine' LCgL.ld_built ?FQz ?XQz ?TQz ?eQz ?vQz ?nQz ?_ ?gQz ?hQz ?aQz ?bQz ?cQz); (case FQz => with_reducible assumption); (case XQz => with_reducible assumption); (case TQz => with_reducible assumption); (case gQz => exact rfl); (case hQz => exact rfl); (case aQz => exact rfl); (case bQz => kernel_rfl!); (case cQz => decide +kernel); (case eQz => k_is); (case vQz => boot_fast); (case nQz => decide +kernel); k_whole) | (name_kind "globalImplicit"; (with_reducible refine' LCgL.ld_global ?FQz ?XQz ?TQz ?eQz ?_ ?gQz ?aQz ?bQz ?cQz); (case FQz => with_reducible assumption); (case XQz => with_reducible assumption); (case TQz => with_reducible assumption); (case gQz => exact rfl); (case aQz => exact rfl); (case bQz => kernel_rfl!); (case cQz => decide +kernel); (case eQz => k_is); k_whole) | (name_kind "free"; (with_reducible refine' lcf_free ?NQz ?kQz ?mQz ?dQz ?_ ?aQz ?bQz ?cQz ?eQz); (case aQz => exact rfl); (case bQz => kernel_rfl!); (case cQz => decide +kernel); (case eQz => decide +kernel); (case NQz => with_reducible assumption); (case kQz => exact rfl); (case mQz => k_mem); (case dQz => k_asm); k_whole))
  k_with "newTuple" => (k_here; k_dflt ((with_reducible refine' kup_newTuple ?FQz ?NQz ?_ ?zQz); (case FQz => with_reducible assumption); (case NQz => with_reducible assumption); (case zQz => first | exact Nat.le_of_ble_eq_true rfl | kmk_size)); intro D'e5 h'e5 F'e5 N'e5 l1e5; (try k_sweep))
  k_with "newList" => (k_here; k_dflt ((with_reducible refine' newList_K ?FQz ?NQz ?_ ?zQz); (case FQz => with_reducible assumption); (case NQz => with_reducible assumption); (case zQz => first | exact Nat.le_of_ble_eq_true rfl | size_fits)); intro D'e6 h'e6 F'e6 N'e6 l1e6; (try k_sweep))
  k_with "And" => ((with_reducible show Frag.In _ _ ∧ _); refine' And.intro ?kQz ?_; (case kQz => k_dflt (first | with_reducible assumption | (refine' Frag.In.keeps ?xQz (Fr.keep ?fQz); (case fQz => with_reducible assumption); (case xQz => with_reducible assumption)) | k_in)); (try dsimp only [List.nil_append, List.cons_append]))
  k_with "execs cons" => (k_here; (try k_gentoks); (with_reducible refine' wpAny_execs_cons ?_); (try dsimp only); (try k_fold))
  k_with "ite" => (k_closed; first | (with_reducible refine' ite_tt ?_) | (with_reducible refine' ite_ff ?_) | ((with_reducible refine' ite_neg ?hQz ?_); (case hQz => decide +kernel)) | ((with_reducible refine' ite_pos ?hQz ?_); (case hQz => decide +kernel)))
  k_with "spliced" => k_dflt ((first | (with_reducible refine' args_cons (env := envOf _ _ _ _ _) ?_ ?heQz) | (with_reducible refine' args_cons (env := envOfC _ _ _ _ _) ?_ ?heQz)); (case heQz => exact rfl))
  k_with "eval Call" => k_dflt ((first | (with_reducible refine' Call_ (env := envOf _ _ _ _ _) ?_ ?heQz) | (with_reducible refine' Call_ (env := envOfC _ _ _ _ _) ?_ ?heQz)); (case heQz => exact rfl))
  k_with "exec Assign" => k_dflt ((first | (with_reducible refine' wpAny_Assign_Name (env := envOf _ _ _ _ _) ?_ ?heQz) | (with_reducible refine' wpAny_Assign_Name (env := envOfC _ _ _ _ _) ?_ ?heQz)); (case heQz => exact rfl); (try k_fold))
  k_with "callWith ref" => (k_here; k_dflt first | ((with_reducible refine' callWith_K ?k1Qz ?k2Qz ?_ ?heQz ?hpQz); (case k1Qz => with_reducible assumption); (case k2Qz => k_is); (case heQz => exact rfl); (case hpQz => exact rfl); k_whole) | ((with_reducible refine' callWith_K0 ?k1Qz ?k2Qz ?_); (case k1Qz => (first | with_reducible assumption | (refine' Frag.In.keeps ?xQz (Fr.keep ?fQz); (case fQz => with_reducible assumption); (case xQz => with_reducible assumption)) | k_in)); (case k2Qz => k_is); k_whole))
  k_with "storeName" => (k_here; k_dflt first | ((with_reducible refine' stN ?FQz ?NQz ?_ ?aQz ?bQz); (case FQz => with_reducible assumption); (case NQz => with_reducible assumption); (case aQz => exact rfl); (case bQz => kernel_rfl!); k_whole; intro h'e14 F'e14 N'e14; (try k_sweep)) | (name_kind "local"; (with_reducible refine' storeC_L ?FQz ?NQz ?_ ?aQz ?bQz); (case FQz => with_reducible assumption); (case NQz => with_reducible assumption); (case aQz => exact rfl); (case bQz => kernel_rfl!); k_whole; intro h'e14 F'e14 N'e14; (try k_sweep)))
  k_with "mine room" => first | exact Nat.le_of_ble_eq_true rfl | ((try simp only [recursionLimit]); (try dsimp only [Around.deeper, Around.in1, Around.mark, rnd]); first | exact room_le (by with_reducible assumption) rfl | omega) | fail "mine"
  k_with "mine enter" => (refine wpAny_call ?_; k_dflt ((with_reducible refine' code_def ?k1Qz ?k2Qz ?k3Qz ?k4Qz ?k5Qz ?kAQz ?kFQz ?kKQz ?k6Qz ?k7Qz ?k8Qz ?k9Qz ?kBQz ?_ ?c2Qz ?c3Qz ?c4Qz ?c5Qz); (case kAQz => exact rfl); (case kFQz => assumption); (case kKQz => assumption); (case k1Qz => k_asm); (case k2Qz => k_asm); (case k3Qz => k_asm); (case k4Qz => k_asm); (case k5Qz => k_asm); (case k6Qz => k_is); (case k7Qz => k_is); (case k8Qz => ktr_room); (case k9Qz => exact BindsTo.of_eq rfl); (case c5Qz => decide); (case kBQz => exact locs rfl); (case c2Qz => exact rfl); (case c3Qz => exact rfl); (case c4Qz => exact rfl); k_whole; intro g'e16 L'e16 h'e16 FG'e16 F'e16 N'e16 B'e16 X'e16 T'e16; (try dsimp only); (try k_fold)))
  k_with "mine pick" => first | exact Pick.head | (refine' Pick.tail ?pkQz; (case pkQz => k_extra "mine pick")) | fail "mine"
  k_with "mine mem" => first | with_reducible assumption | exact mem_hd | (refine' mem_tl ?pmQz; (case pmQz => k_extra "mine mem")) | (refine' Sub.mem ?pgQz ?pmQz; (case pgQz => with_reducible assumption); (case pmQz => k_extra "mine mem")) | (refine' Grow.mem ?pgQz ?pmQz; (case pgQz => with_reducible assumption); (case pmQz => k_extra "mine mem")) | fail "mine"
  k_with "mine at" => first | (with_reducible exact at_hd) | ((with_reducible refine' at_tl ?pmQz); (case pmQz => k_extra "mine at")) | fail "mine"
  k_with "mine pj" => first | with_reducible assumption | exact pj_l (by with_reducible assumption) | exact pj_l (pj_r (by with_reducible assumption)) | exact pj_r (by with_reducible assumption) | exact pj_l (pj_2 (by with_reducible assumption)) | exact pj_2 (by with_reducible assumption) | exact pj_l (pj_2 (pj_r (by with_reducible assumption))) | exact pj_2 (pj_r (by with_reducible assumption)) | exact pj_l (pj_4 (by with_reducible assumption)) | exact pj_4 (by with_reducible assumption) | exact pj_l (pj_4 (pj_r (by with_reducible assumption))) | exact pj_4 (pj_r (by with_reducible assumption)) | exact pj_l (pj_4 (pj_2 (by with_reducible assumption))) | exact pj_4 (pj_2 (by with_reducible assumption)) | exact pj_l (pj_4 (pj_2 (pj_r (by with_reducible assumption)))) | exact pj_4 (pj_2 (pj_r (by with_reducible assumption))) | exact pj_l (pj_8 (by with_reducible assumption)) | exact pj_8 (by with_reducible assumption) | exact pj_l (pj_8 (pj_r (by with_reducible assumption))) | exact pj_8 (pj_r (by with_reducible assumption)) | exact pj_l (pj_8 (pj_2 (by with_reducible assumption))) | exact pj_8 (pj_2 (by with_reducible assumption)) | exact pj_l (pj_8 (pj_2 (pj_r (by with_reducible assumption)))) | exact pj_8 (pj_2 (pj_r (by with_reducible assumption))) | exact pj_l (pj_8 (pj_4 (by with_reducible assumption))) | exact pj_8 (pj_4 (by with_reducible assumption)) | exact pj_l (pj_8 (pj_4 (pj_r (by with_reducible assumption)))) | exact pj_8 (pj_4 (pj_r (by with_reducible assumption))) | exact pj_l (pj_8 (pj_4 (pj_2 (by with_reducible assumption)))) | exact pj_8 (pj_4 (pj_2 (by with_reducible assumption))) | exact pj_l (pj_8 (pj_4 (pj_2 (pj_r (by with_reducible assumption))))) | exact pj_8 (pj_4 (pj_2 (pj_r (by with_reducible assumption)))) | exact pj_l (pj_16 (by with_reducible assumption)) | exact pj_16 (by with_reducible assumption) | exact pj_l (pj_16 (pj_r (by with_reducible assumption))) | exact pj_16 (pj_r (by with_reducible assumption)) | exact pj_l (pj_16 (pj_2 (by with_reducible assumption))) | exact pj_16 (pj_2 (by with_reducible assumption)) | exact pj_l (pj_16 (pj_2 (pj_r (by with_reducible assumption)))) | exact pj_16 (pj_2 (pj_r (by with_reducible assumption))) | exact pj_l (pj_16 (pj_4 (by with_reducible assumption))) | exact pj_16 (pj_4 (by with_reducible assumption)) | exact pj_l (pj_16 (pj_4 (pj_r (by with_reducible assumption)))) | exact pj_16 (pj_4 (pj_r (by with_reducible assumption))) | exact pj_l (pj_16 (pj_4 (pj_2 (by with_reducible assumption)))) | exact pj_16 (pj_4 (pj_2 (by with_reducible assumption))) | exact pj_l (pj_16 (pj_4 (pj_2 (pj_r (by with_reducible assumption))))) | exact pj_16 (pj_4 (pj_2 (pj_r (by with_reducible assumption)))) | exact pj_l (pj_16 (pj_8 (by with_reducible assumption))) | exact pj_16 (pj_8 (by with_reducible assumption)) | exact pj_l (pj_16 (pj_8 (pj_r (by with_reducible assumption)))) | exact pj_16 (pj_8 (pj_r (by with_reducible assumption))) | exact pj_l (pj_16 (pj_8 (pj_2 (by with_reducible assumption)))) | exact pj_16 (pj_8 (pj_2 (by with_reducible assumption))) | exact pj_l (pj_16 (pj_8 (pj_2 (pj_r (by with_reducible assumption))))) | exact pj_16 (pj_8 (pj_2 (pj_r (by with_reducible assumption)))) | exact pj_l (pj_16 (pj_8 (pj_4 (by with_reducible assumption)))) | exact pj_16 (pj_8 (pj_4 (by with_reducible assumption))) | exact pj_l (pj_16 (pj_8 (pj_4 (pj_r (by with_reducible assumption))))) | exact pj_16 (pj_8 (pj_4 (pj_r (by with_reducible assumption)))) | exact pj_l (pj_16 (pj_8 (pj_4 (pj_2 (by with_reducible assumption))))) | exact pj_16 (pj_8 (pj_4 (pj_2 (by with_reducible assumption)))) | exact pj_l (pj_16 (pj_8 (pj_4 (pj_2 (pj_r (by with_reducible assumption)))))) | exact pj_16 (pj_8 (pj_4 (pj_2 (pj_r (by with_reducible assumption))))) | fail "mine"
  k_with "mine new" => first | ((with_reducible refine' ne_new ?hQz ?mQz); (case hQz => with_reducible assumption); (case mQz => k_extra "mine at")) | ((with_reducible refine' ne_new' ?hQz ?mQz); (case hQz => with_reducible assumption); (case mQz => k_extra "mine at")) | ((with_reducible refine' Nat.ne_of_lt ?hQz); (case hQz => k_extra "mine pj")) | ((with_reducible refine' Nat.ne_of_gt ?hQz); (case hQz => k_extra "mine pj")) | fail "mine"
  k_with "mine ne" => first | assumption | (refine Ne.symm ?_; assumption) | k_extra "mine new" | (refine neN ?_; (try dsimp only); first | k_extra "mine new" | omega) | fail "mine"
  k_with "mine off" => first | with_reducible assumption | exact Off.nil | (refine Off.tup ?_; k_extra "mine off") | (refine Off.ne ?_ ?_; (k_extra "mine ne"); (k_extra "mine off")) | fail "mine"
  k_with "mine sub" => first | with_reducible assumption | exact Sub.refl | (refine Sub.tl ?_; k_extra "mine sub") | (refine' Sub.gr ?pgQz ?pkQz; (case pgQz => with_reducible assumption); (case pkQz => k_extra "mine sub")) | fail "mine"
  k_with "call ref" => (k_here; (with_reducible show wpAny _ _ (call (Value.ref 220) [Value.ref _, Value.int _ _]) _ _ _); k_dflt ((with_reducible refine' take_use ?k1Qz ?k2Qz ?k3Qz ?k4Qz ?k5Qz ?a3Qz ?hfQz ?hkQz ?a1Qz ?a2Qz ?a4Qz ?hsQz ?hoQz ?htQz ?offQz ?_); (case k1Qz => k_asm); (case k2Qz => k_asm); (case k3Qz => k_asm); (case k4Qz => k_asm); (case k5Qz => k_asm); (case a3Qz => exact rfl); (case hfQz => exact rfl); (case hkQz => exact rfl); (case a1Qz => exact rfl); (case a2Qz => k_extra "mine room"); (case a4Qz => k_extra "mine room"); (case hoQz => assumption); (case hsQz => k_extra "mine pick"); (case htQz => exact ⟨by decide, by decide⟩); (case offQz => k_extra "mine off")); intro d'e34 td'e34 o'e34 h'e34 tk'e34 hd0e34 hd1e34 ho'e34 F'e34 N'e34; (try dsimp only); (try k_sweep); (try k_fold))
  exact True.intro
--PART A25cWorld
section
local macro_rules | `(tactic| k_all) => `(tactic| assumption)
theorem known_use {w : World} {fr : Led} {mean : ExcName → Option Value} {mg mb : Str → Option Value} {A : Around} {env : Env} {outer : List Env} {A₀ : Around} {base h₀ : Heap} {L : Addr} {m : Str → Option Value} {s : Shared} {Q E : Value → Shared → Prop}
    (B : Below A₀ base outer h₀) (F : Fr h₀ L s.heap m) (X : (hd.heap_39 w.params).In h₀) (N : News h₀ L s.heap fr) (T : Top hd.view_39 (looseW hd.view_39 [Str.ofString "ChanError"]) mean mg mb h₀)
    (a3 : A.frames = some (env :: outer)) (hf : env.frame = some L) (hk : env.scope.kind = .function) (a1 : A.handled = none) (a2 : A.depth ≤ 450) (a4 : A.units ≤ 5600)
    (kk : ∀ d o kvs h' tk', (d == sysModules) = false → o.IsDictOf (PySem.strKind PySem.Challenge.rw_on0017_01.row.prog w) kvs → kvs.length ≤ 4 → Fr h₀ L h' m → News h₀ L h' ((d, o) :: fr) → (∀ p ∈ fr, p.1 < d) → Q (.ref d) { s with heap := h', toks := tk' }) :
    wpAny (model PySem.Challenge.rw_on0017_01.row.prog w) A (call (.ref 170) []) Q E s :=
  (known_con w).use fr B F X N T hf hk a1 a2 a3 a4 (fun _ m => m) ⟨rfl, rfl⟩ (fun v news' h' tk' F' N' hp => by
    obtain ⟨d, o, kvs, rfl, rfl, q1, q2, q3, q4⟩ := hp
    exact kk d o kvs _ _ q1 q3 q4 F' N' q2)
noncomputable def woPre (fr : Led) (news : Led) (vs : List Value) : Prop := news = fr ∧ vs = []
noncomputable def woPost (w : World) (fr : Led) (news : Led) (v : Value) : Prop := ∃ x d es n nd od kvs, v = .ref x ∧ news = (nd, od) :: (x, instObj 202 d) :: (d, dictOf es n) :: fr ∧ (getL (Str.ofString "named") es = some (some (.ref nd)) ∧ getL (Str.ofString "base_of") es = some none) ∧ (nd == sysModules) = false ∧ od.IsDictOf (PySem.strKind PySem.Challenge.rw_on0017_01.row.prog w) kvs ∧ kvs.length ≤ 4 ∧ (∀ p ∈ fr, p.1 < d) ∧ d < x ∧ x < nd
theorem list_drop {M : Model} {A : Around} {E : Value → Shared → Prop} {s : Shared} {h₀ : Heap} {L : Addr} {m : Str → Option Value} {news : Led} {Q : Value → Shared → Prop} (F : Fr h₀ L s.heap m) (N : News h₀ L s.heap news) (h : ∀ D h', Fr h₀ L h' m → News h₀ L h' news → Q (.ref D) { s with heap := h' }) : wpAny M A (newList []) Q E s :=
  newList_K F N (fun D h' F' N' _ => h D h' F' fun p mm => N' p (.tail _ mm)) (Nat.zero_le _)
section
theorem ln37 : True := by
  k_with "mine make" => (k_dflt ((first | with_reducible refine' call_cls ?k1Qz ?k2Qz ?k3Qz ?k4Qz ?k5Qz ?k6Qz ?_ | refine' call_cls ?k1Qz ?k2Qz ?k3Qz ?k4Qz ?k5Qz ?k6Qz ?_); (case k1Qz => k_asm); (case k2Qz => k_asm); (case k3Qz => k_asm); (case k4Qz => k_is); (case k5Qz => k_is); (case k6Qz => k_is); k_whole); (intro x'e157 d'e157 h'e157 F'e157 N'e157 l1e157 l2e157; (try (have l1be157 := l1e157; replace l1e157 := allLt_of l1e157; dsimp only [AllLt] at l1e157)); (try k_lt2 l2e157); (try k_sweep)); k_dflt ((first | with_reducible refine' code_def ?k1Qz ?k2Qz ?k3Qz ?k4Qz ?k5Qz ?kAQz ?kFQz ?kKQz ?k6Qz ?k7Qz ?k8Qz ?k9Qz ?kBQz ?_ ?c2Qz ?c3Qz ?c4Qz ?c5Qz | refine' code_def ?k1Qz ?k2Qz ?k3Qz ?k4Qz ?k5Qz ?kAQz ?kFQz ?kKQz ?k6Qz ?k7Qz ?k8Qz ?k9Qz ?kBQz ?_ ?c2Qz ?c3Qz ?c4Qz ?c5Qz); (case kAQz => exact rfl); (case kFQz => assumption); (case kKQz => assumption); (case k1Qz => k_asm); (case k2Qz => k_asm); (case k3Qz => k_asm); (case k4Qz => k_asm); (case k5Qz => k_asm); (case k6Qz => k_is); (case k7Qz => k_is); (case k8Qz => ktr_room); (case k9Qz => first | exact BindsTo.of_eq rfl | exact binds_K (by k_in) rfl (by k_is) rfl rfl rfl | fail "binds"); (case c5Qz => decide); (case kBQz => exact locs rfl); (case c2Qz => exact rfl); (case c3Qz => exact rfl); (case c4Qz => exact rfl); k_whole; intro g'e157 L'e157 h'e157 FG'e157 F'e157 N'e157 B'e157 X'e157 T'e157; (try dsimp only); (try k_fold)))
  k_with "newList" => (k_here; k_dflt ((first | with_reducible refine' list_drop ?FQz ?NQz ?_ | refine' list_drop ?FQz ?NQz ?_); (case FQz => k_asm); (case NQz => k_asm)); intro D'e158 h'e158 F'e158 N'e158; (try k_sweep))
  k_with "eval Dict nil nil" => (k_here; k_dflt ((first | with_reducible refine' dict0_drop ?FQz ?NQz ?bQz ?_ | refine' dict0_drop ?FQz ?NQz ?bQz ?_); (case FQz => k_asm); (case NQz => k_asm); (case bQz => exact Top.nolimit (by k_asm))); intro d'e153 h'e153 F'e153 N'e153; (try k_sweep))
  k_with "call ref" => (k_here; (with_reducible show wpAny _ _ (call (Value.ref 170) _) _ _ _); k_dflt ((first | with_reducible refine' known_use ?k1Qz ?k2Qz ?k3Qz ?k4Qz ?k5Qz ?a3Qz ?hfQz ?hkQz ?a1Qz ?a2Qz ?a4Qz ?_ | refine' known_use ?k1Qz ?k2Qz ?k3Qz ?k4Qz ?k5Qz ?a3Qz ?hfQz ?hkQz ?a1Qz ?a2Qz ?a4Qz ?_); (case k1Qz => k_asm); (case k2Qz => k_asm); (case k3Qz => k_asm); (case k4Qz => k_asm); (case k5Qz => k_asm); (case a3Qz => exact rfl); (case hfQz => exact rfl); (case hkQz => exact rfl); (case a1Qz => exact rfl); (case a2Qz => k_extra "mine room"); (case a4Qz => k_extra "mine room")); intro d'e159 o'e159 kvs'e159 h'e159 tk'e159 lo'e159 hd'e159 hl'e159 F'e159 N'e159 l1e159; (try (have l1be159 := l1e159; replace l1e159 := allLt_of l1e159; dsimp only [AllLt] at l1e159)); (try dsimp only); (try k_sweep); (try k_fold))
  exact True.intro
set_option maxRecDepth 100000 in
set_option maxHeartbeats 8000000 in
theorem world_con (w : World) : Con w 202 440 5500 woPre (woPost w) := by
  unfold Con
  k_fill
  rintro fr mean mg mb env outer gd A₀ base h₀ L m news s vs Q E B F X N T hf hk ⟨rfl, rfl⟩ hret
  try dsimp only at *
  k_extra "mine make"
  rename ∀ p ∈ news, p.1 < _ => hlt9
  rename _ < _ => hlx9
  k_steps
  (rename Obj.IsDictOf _ _ _ => hd9)
  (rename _ < _ ∧ _ => l9)
  refine hret _ _ _ _ (by k_asm) (by k_asm) ⟨_, _, _, _, _, _, _, rfl, rfl, ⟨rfl, rfl⟩, by assumption, hd9, by assumption, hlt9, hlx9, l9.1⟩
end

end
--PART A25ePre
section
theorem PlaceIn.lt8 {l : Led} {v : Value} {ty : Ty} {r : Option Nat} {b : Bool} {d : Nat} (h : PlaceIn l v ty r b d) : ∀ n, r = some n → n < 8 := by
  induction h with
  | loc i m T => intro n e; cases e; exact i
  | field m T _ ih => exact ih
  | index m T _ f ih =>
    intro n e
    split at e
    · exact ih n e
    · cases e
  | deref m T _ ih => exact fun n e => nomatch e
theorem PlaceIn.root8 {l : Led} {v : Value} {ty : Ty} {r : Option Nat} {b : Bool} {d : Nat} (h : PlaceIn l v ty r b d) : ∀ y ∈ rootL r, 0 ≤ y ∧ y < 8 := by
  intro y hy
  cases r with
  | none => cases hy
  | some n =>
    have := h.lt8 n rfl
    have e : y = (n : Int) := List.mem_singleton.mp hy
    omega
theorem Own.lt8 {l : Led} {x : Str} {vs : List Value} {own : List Int} (h : Own l x vs own) : ∀ y ∈ own, 0 ≤ y ∧ y < 8 := by
  cases h with
  | plain h => exact fun y hy => nomatch hy
  | address h => exact h.root8
  | cut h => intro y hy; split at hy; exact h.root8 y hy; cases hy
  | set1 m h => intro y hy; split at hy; cases hy; exact h.root8 y hy
  | set2 m h => intro y hy; split at hy; cases hy; exact h.root8 y hy
  | update h => intro y hy; split at hy; cases hy; exact h.root8 y hy
mutual
theorem Walk.lt8 {l : Led} : ∀ {v : Value} {xs : List Int} {n : Nat}, Walk l v xs n → ∀ y ∈ xs, 0 ≤ y ∧ y < 8
  | _, _, _, .flat _ => fun _ h => nomatch h
  | _, _, _, .empty _ => fun _ h => nomatch h
  | _, _, _, .type _ _ => fun _ h => nomatch h
  | _, _, _, .seq _ _ r => WalkAll.lt8 r
  | _, _, _, .node _ k r => fun y hy => (List.mem_append.mp hy).elim (k.lt8 y) (WalkAll.lt8 r y)
theorem WalkAll.lt8 {l : Led} : ∀ {vs : List Value} {xs : List Int} {n : Nat}, WalkAll l vs xs n → ∀ y ∈ xs, 0 ≤ y ∧ y < 8
  | _, _, _, .nil => fun _ h => nomatch h
  | _, _, _, .cons h r => fun y hy => (List.mem_append.mp hy).elim (Walk.lt8 h y) (WalkAll.lt8 r y)
end
theorem valueAt_stored {K : Type} [DecidableEq K] {k : K} {v : Value} : ∀ {kvs : List (K × Value)}, valueAt (stored kvs k v) k = some v := by
  intro kvs
  unfold stored
  by_cases h : kvs.any (fun kv => kv.1 = k) = true
  · rw [if_pos h]
    induction kvs with
    | nil => simp at h
    | cons p r ih =>
      by_cases hp : p.1 = k
      · simp [valueAt, hp]
      · have h' : r.any (fun kv => kv.1 = k) = true := by
          rw [List.any_cons] at h
          simpa [hp] using h
        have := ih h'
        unfold valueAt at this ⊢
        rw [List.map_cons, if_neg hp, List.find?_cons_of_neg (by simpa using hp)]
        exact this
  · rw [if_neg h]
    have e : kvs.find? (fun kv => kv.1 = k) = none := by
      rw [List.find?_eq_none]
      intro p hp hq
      exact h (List.any_eq_true.mpr ⟨p, hp, hq⟩)
    unfold valueAt
    rw [List.find?_append, e]
    simp
section
variable {w : World} {fr : Led} {mean : ExcName → Option Value} {mg mb : Str → Option Value} {A : Around} {env : Env} {outer : List Env} {A₀ : Around} {base h₀ : Heap} {L : Addr} {m : Str → Option Value} {s : Shared} {Q E : Value → Shared → Prop}
theorem world_use
    (B : Below A₀ base outer h₀) (F : Fr h₀ L s.heap m) (X : (hd.heap_39 w.params).In h₀) (N : News h₀ L s.heap fr) (T : Top hd.view_39 (looseW hd.view_39 [Str.ofString "ChanError"]) mean mg mb h₀)
    (a3 : A.frames = some (env :: outer)) (hf : env.frame = some L) (hk : env.scope.kind = .function) (a1 : A.handled = none) (a2 : A.depth ≤ 440) (a4 : A.units ≤ 5500)
    (kk : ∀ nd od x d es n kvs h' tk', getL (Str.ofString "named") es = some (some (.ref nd)) → getL (Str.ofString "base_of") es = some none → (nd == sysModules) = false → od.IsDictOf (PySem.strKind PySem.Challenge.rw_on0017_01.row.prog w) kvs → kvs.length ≤ 4 → Off nd ((x, instObj 202 d) :: (d, dictOf es n) :: fr) → (∀ p ∈ fr, p.1 < d) → d < x → x < nd → Fr h₀ L h' m → News h₀ L h' ((nd, od) :: (x, instObj 202 d) :: (d, dictOf es n) :: fr) → Q (.ref x) { s with heap := h', toks := tk' }) :
    wpAny (model PySem.Challenge.rw_on0017_01.row.prog w) A (call (.ref 202) []) Q E s :=
  (world_con w).use fr B F X N T hf hk a1 a2 a3 a4 (fun _ m => m) ⟨rfl, rfl⟩ (fun v news' h' tk' F' N' hp => by
    obtain ⟨x, d, es, n, nd, od, kvs, rfl, rfl, ⟨q1, q2⟩, q3, q4, q5, q6, q7, q8⟩ := hp
    exact kk nd od x d es n kvs _ _ q1 q2 q3 q4 q5 (fun p mm => .inr (by
      rcases List.mem_cons.mp mm with rfl | mm
      · exact Nat.ne_of_lt q8
      · rcases List.mem_cons.mp mm with rfl | mm
        · exact Nat.ne_of_lt (Nat.lt_trans q7 q8)
        · exact Nat.ne_of_lt (Nat.lt_trans (q6 p mm) (Nat.lt_trans q7 q8)))) q6 q7 q8 F' N')
theorem types_drop
    (B : Below A₀ base outer h₀) (F : Fr h₀ L s.heap m) (X : (hd.heap_39 w.params).In h₀) (N : News h₀ L s.heap fr) (T : Top hd.view_39 (looseW hd.view_39 [Str.ofString "ChanError"]) mean mg mb h₀)
    (a3 : A.frames = some (env :: outer)) (hf : env.frame = some L) (hk : env.scope.kind = .function) (a1 : A.handled = none) (a2 : A.depth ≤ 600) (a4 : A.units ≤ 8000)
    (kk : ∀ l (vs : List Value) n h' tk', vs.length = 8 → Fr h₀ L h' m → News h₀ L h' ((l, listOf vs.toArray n) :: fr) → (∀ p ∈ fr, p.1 < l) → Q (.ref l) { s with heap := h', toks := tk' }) :
    wpAny (model PySem.Challenge.rw_on0017_01.row.prog w) A (call (.ref 245) []) Q E s :=
  (types_con w).use fr B F X N T hf hk a1 a2 a3 a4 (fun _ m => m) ⟨rfl, rfl⟩ (fun r news' h' tk' F' N' hp => by
    obtain ⟨l, vs, n, fr', rfl, rfl, g, hl, hT⟩ := hp
    exact kk l vs n _ _ hT.1 F' (fun p mm => N' p (by
      rcases List.mem_cons.mp mm with rfl | mm
      · exact .head _
      · exact .tail _ (g.1 _ mm))) hl)
theorem named_set {nd : Addr} {od : Obj} {kvs : List (Str × Value)} {k : Str} {t : Tok} {v : Value} {news : Led} {Q : Unit → Shared → Prop}
    (hd : od.IsDictOf (PySem.strKind PySem.Challenge.rw_on0017_01.row.prog w) kvs) (hl : kvs.length ≤ 1000) (F : Fr h₀ L s.heap m) (N : News h₀ L s.heap news) (hs : Pick (nd, od) news fr) (hoff : Off nd fr)
    (h : ∀ h' od', od'.IsDictOf (PySem.strKind PySem.Challenge.rw_on0017_01.row.prog w) (stored kvs k v) → Fr h₀ L h' m → News h₀ L h' ((nd, od') :: fr) → Q () { s with heap := h', toks := s.toks + 1 }) : wpAny (model PySem.Challenge.rw_on0017_01.row.prog w) A (setItem (.ref nd) (.str k t) v) Q E s := by
  have N1 : News h₀ L s.heap ((nd, od) :: fr) := fun p m => N p (hs.sub p m)
  have hc : od.cls ≠ .type "tuple" := by
    obtain ⟨es, ep, hx, _⟩ := hd
    rw [hx.1]
    exact fun e => absurd (Value.type.inj e) (by decide)
  exact kda_set F N1 (.head (hoff.ok N1 hc)) hd (PySem.strKind_is _ _ _ _) (by rw [sizeLine_eq]; omega) fun h' o' F' N' hd' => h h' o' hd' F' N'
noncomputable def FnOk (es : List DictEntry) (vf ve vg : Value) : Prop := getL (Str.ofString "body") es = some (some vf) ∧ getL (Str.ofString "captured") es = some (some ve) ∧ getL (Str.ofString "literals") es = some (some vg)
theorem fn_use2 {va vb vc vd ve vf vg : Value}
    (B : Below A₀ base outer h₀) (F : Fr h₀ L s.heap m) (X : (hd.heap_39 w.params).In h₀) (N : News h₀ L s.heap fr) (T : Top hd.view_39 (looseW hd.view_39 [Str.ofString "ChanError"]) mean mg mb h₀)
    (a3 : A.frames = some (env :: outer)) (hf : env.frame = some L) (hk : env.scope.kind = .function) (a1 : A.handled = none) (a2 : A.depth ≤ 460) (a4 : A.units ≤ 5700)
    (h1 : handedIn va = true) (h2 : handedIn vb = true) (h3 : handedIn vc = true) (h4 : handedIn vd = true) (h5 : handedIn ve = true) (h6 : handedIn vf = true) (h7 : handedIn vg = true)
    (kk : ∀ x d es n h' tk', FnOk es vf ve vg → (∀ p ∈ fr, p.1 < d) → d < x → Fr h₀ L h' m → News h₀ L h' ((x, instObj 90 d) :: (d, dictOf es n) :: fr) → Q (.ref x) { s with heap := h', toks := tk' }) :
    wpAny (model PySem.Challenge.rw_on0017_01.row.prog w) A (call (.ref 90) [va, vb, vc, vd, ve, vf, vg]) Q E s := fn_use B F X N T a3 hf hk a1 a2 a4 h1 h2 h3 h4 h5 h6 h7 kk
theorem told_fin {l0 news : Led} {tf td W wd nd r rd u bd ca la : Addr} {od lo : Obj} {wes fes res : List DictEntry} {wn fnn rn : Nat} {kvs : List (Str × Value)} {lks : List (Str × Value)} {body : List Value} {xs : List Int} {n : Nat} {caps outs : List Int} {t1 t2 : Tok}
    (w6 : od.IsDictOf (PySem.strKind PySem.Challenge.rw_on0017_01.row.prog w) (stored kvs (Str.ofString "main.N") (.ref r)))
    (B : Below A₀ base outer h₀) (F : Fr h₀ L s.heap m) (X : (hd.heap_39 w.params).In h₀) (N : News h₀ L s.heap news) (T : Top hd.view_39 (looseW hd.view_39 [Str.ofString "ChanError"]) mean mg mb h₀)
    (a3 : A.frames = some (env :: outer)) (hf : env.frame = some L) (hk : env.scope.kind = .function) (a1 : A.handled = none) (a2 : A.depth ≤ 440) (a4 : A.units ≤ 5500)
    (w1 : (W, instObj 202 wd) ∈ news) (w2 : (wd, dictOf wes wn) ∈ news) (w3 : getL (Str.ofString "named") wes = some (some (.ref nd))) (w4 : getL (Str.ofString "base_of") wes = some none) (w5 : (nd, od) ∈ news) (w7 : (nd == sysModules) = false)
    (w8 : (r, instObj 159 rd) ∈ news) (w9 : (rd, dictOf res rn) ∈ news) (w10 : getL (Str.ofString "underlying") res = some (some (.ref u))) (w11 : (u, tupO [.str (Str.ofString "array") t1, .int 2 t2, .ref 228]) ∈ news)
    (f1 : (tf, instObj 90 td) ∈ news) (f2 : (td, dictOf fes fnn) ∈ news) (f3 : FnOk fes (.ref bd) (.ref ca) (.ref la)) (f4 : (bd, tupO body) ∈ news)
    (hlt : (la, lo) ∈ l0) (hlo : (la == sysModules) = false) (hld : lo.IsDictOf (PySem.strKind PySem.Challenge.rw_on0017_01.row.prog w) lks) (hL : LitsAre l0 lks outs) (hC : CapIs l0 ca caps) (hWk : WalkAll l0 body xs n) (hr : allRefs body) (hn : n ≤ 16000) (ho : outs.length ≤ 100) (hcb : ∀ y ∈ caps, 0 ≤ y ∧ y < 8) (hob : ∀ y ∈ outs, 0 ≤ y ∧ y < 8)
    (sb : Sub l0 news)
    (k : ∀ fo od' kvs' h' tk', (fo == sysModules) = false → od'.IsDictOf (PySem.intKind PySem.Challenge.rw_on0017_01.row.prog w) kvs' → (∀ y ∈ kvs'.map (·.1), 0 ≤ y ∧ y < 8) → (∀ y, y ∈ kvs'.map (·.1) ↔ y ∈ caps ∨ y ∈ outs ∨ y ∈ xs) → Fr h₀ L h' m → News h₀ L h' ((fo, od') :: l0) → Q (.ref fo) { s with heap := h', toks := tk' }) :
    wpAny (model PySem.Challenge.rw_on0017_01.row.prog w) A (call (.ref 73) [.ref tf, .ref W]) Q E s := by
  have hC' : CapIs news ca caps := by
    cases hC with
    | none h => exact .none (sb _ h)
    | one h h' => exact .one (sb _ h) (sb _ h')
  refine (boxlocals_con w).use ⟨news, tf, W, body, xs, n, caps, outs⟩ B F X N T hf hk a1 a2 a3 a4 (fun _ m => m) ⟨rfl, rfl, ⟨⟨_, _, _, _, _, _, _, _, _, _, _, _, _, w1, w2, ⟨w3, w4⟩, w5, w6, valueAt_stored, w7, w8, w9, w10, w11⟩⟩, ⟨⟨_, _, _, _, _, _, _, _, f1, f2, f3, f4, hC', sb _ hlt, hld, hL.mono sb, hlo⟩⟩, hWk.mono sb.T, hr, by dsimp only; omega, ho⟩ (fun v news' h' tk' F' N' hp => ?_)
  obtain ⟨fo, od', kvs', fr', rfl, rfl, g, q1, q2, q3, q4, q5⟩ := hp
  refine k fo od' kvs' h' tk' q1 q3 (fun y hy => ?_) q5 F' fun p mm => N' p ?_
  · rcases (q5 y).mp hy with h | h | h
    · exact hcb y h
    · exact hob y h
    · exact hWk.lt8 y h
  · rcases List.mem_cons.mp mm with rfl | mm
    · exact .head _
    · exact .tail _ (g.1 _ (sb _ mm))
end

end
theorem ln38 : True := by
  k_with_none
  k_with "eval Name" => (k_here; (with_reducible show wpAny _ _ (eval (PySem.Expr.Name _ _) (envOf _ _ _ _ _)) _ _ _); name_kind "globalImplicit"; k_dflt ((with_reducible refine' name_K ?k0Qz ?k1Qz ?k2Qz ?k3Qz ?_ ?aQz ?bQz ?cQz); (case k0Qz => with_reducible assumption); (case k1Qz => with_reducible assumption); (case k2Qz => k_asm); (case k3Qz => k_is); (case aQz => exact rfl); (case bQz => kernel_rfl!); (case cQz => decide +kernel); k_whole))
  k_with "eval Name" => (k_here; (with_reducible show wpAny _ _ (eval (PySem.Expr.Name _ _) (envOf _ _ _ _ _)) _ _ _); name_kind "globalImplicit"; name_is_builtin; k_dflt ((with_reducible refine' name_B ?k0Qz ?k1Qz ?k2Qz ?k3Qz ?k4Qz ?k5Qz ?_ ?aQz ?bQz ?cQz); (case k0Qz => with_reducible assumption); (case k1Qz => with_reducible assumption); (case k2Qz => k_asm); (case k3Qz => k_is); (case k4Qz => boot_fast); (case k5Qz => decide +kernel); (case aQz => exact rfl); (case bQz => kernel_rfl!); (case cQz => decide +kernel); k_whole))
  k_with "eval Name" => (k_here; (with_reducible show wpAny _ _ (eval (PySem.Expr.Name _ _) (envOf _ _ _ _ _)) _ _ _); name_kind "local"; k_dflt ((with_reducible refine' ld ?k1Qz ?k2Qz ?_ ?aQz ?bQz ?cQz); (case k1Qz => with_reducible assumption); (case aQz => exact rfl); (case bQz => kernel_rfl!); (case cQz => decide +kernel); (case k2Qz => exact rfl); k_whole))
  k_with "eval Name" => (k_here; (with_reducible show wpAny _ _ (eval (PySem.Expr.Name _ _) (envOfC _ _ _ _ _)) _ _ _); k_dflt first | (name_kind "local"; (with_reducible refine' nameC_L ?FQz ?vQz ?_ ?aQz ?bQz ?cQz); (case FQz => with_reducible assumption); (case aQz => exact rfl); (case bQz => kernel_rfl!); (case cQz => decide +kernel); (case vQz => first | exact rfl | assumption); k_whole) | (name_kind "cell"; (with_reducible refine' nameC_C ?NQz ?kQz ?mQz ?dQz ?_ ?aQz ?bQz ?cQz); (case aQz => exact rfl); (case bQz => kernel_rfl!); (case cQz => decide +kernel); (case NQz => with_reducible assumption); (case kQz => exact rfl); (case mQz => k_mem); (case dQz => k_asm); k_whole) | (name_kind "globalImplicit"; name_is_builtin; (with_reducible refine' nameC_B ?FQz ?XQz ?TQz ?eQz ?vQz ?nQz ?_ ?aQz ?bQz ?cQz); (case FQz => with_reducible assumption); (case XQz => with_reducible assumption); (case TQz => k_asm); (case aQz => exact rfl); (case bQz => kernel_rfl!); (case cQz => decide +kernel); (case eQz => k_is); (case vQz => boot_fast); (case nQz => decide +kernel); k_whole) | (name_kind "globalImplicit"; (with_reducible refine' nameC_K ?FQz ?XQz ?TQz ?eQz ?_ ?aQz ?bQz ?cQz); (case FQz => with_reducible assumption); (case XQz => with_reducible assumption); (case TQz => k_asm); (case aQz => exact rfl); (case bQz => kernel_rfl!); (case cQz => decide +kernel); (case eQz => k_is); k_whole))
  k_with "eval Name" => (k_here; (with_reducible show wpAny _ _ (eval (PySem.Expr.Name _ _) (compEnvC _ _ _ _)) _ _ _); k_dflt first | (name_kind "local"; (with_reducible refine' LCgL.ld_own ?NQz ?mQz ?CQz ?xQz ?_ ?aQz ?bQz ?cQz); (case NQz => with_reducible assumption); (case mQz => k_mem); (case CQz => with_reducible assumption); (case xQz => assumption); (case aQz => exact rfl); (case bQz => kernel_rfl!); (case cQz => decide +kernel); k_whole) | (name_kind "globalImplicit"; name_is_builtin; (with_reducible refine' LCgL.ld_built ?FQz ?XQz ?TQz ?eQz ?vQz ?nQz ?_ ?gQz ?hQz ?aQz ?bQz ?cQz); (case FQz => with_reducible assumption); (case XQz => with_reducible assumption); (case TQz => with_reducible assumption); (case gQz => exact rfl); (case hQz => exact rfl); (case aQz => exact rfl); (case bQz => kernel_rfl!); (case cQz => decide +kernel); (case eQz => k_is); (case vQz => boot_fast); (case nQz => decide +kernel); k_whole) | (name_kind "globalImplicit"; (with_reducible refine' LCgL.ld_global ?FQz ?XQz ?TQz ?eQz ?_ ?gQz ?aQz ?bQz ?cQz); (case FQz => with_reducible assumption); (case XQz => with_reducible assumption); (case TQz => with_reducible assumption); (case gQz => exact rfl); (case aQz => exact rfl); (case bQz => kernel_rfl!); (case cQz => decide +kernel); (case eQz => k_is); k_whole) | (name_kind "free"; (with_reducible refine' lcf_free ?NQz ?kQz ?mQz ?dQz ?_ ?aQz ?bQz ?cQz ?eQz); (case aQz => exact rfl); (case bQz => kernel_rfl!); (case cQz => decide +kernel); (case eQz => decide +kernel); (case NQz => with_reducible assumption); (case kQz => exact rfl); (case mQz => k_mem); (case dQz => k_asm); k_whole))
  k_with "newTuple" => (k_here; k_dflt ((with_reducible refine' kup_newTuple ?FQz ?NQz ?_ ?zQz); (case FQz => with_reducible assumption); (case NQz => with_reducible assumption); (case zQz => first | exact Nat.le_of_ble_eq_true rfl | kmk_size)); intro D'e5 h'e5 F'e5 N'e5 l1e5; (try k_sweep))
  k_with "newList" => (k_here; k_dflt ((with_reducible refine' newList_K ?FQz ?NQz ?_ ?zQz); (case FQz => with_reducible assumption); (case NQz => with_reducible assumption); (case zQz => first | exact Nat.le_of_ble_eq_true rfl | size_fits)); intro D'e6 h'e6 F'e6 N'e6 l1e6; (try k_sweep))
  k_with "And" => ((with_reducible show Frag.In _ _ ∧ _); refine' And.intro ?kQz ?_; (case kQz => k_dflt (first | with_reducible assumption | (refine' Frag.In.keeps ?xQz (Fr.keep ?fQz); (case fQz => with_reducible assumption); (case xQz => with_reducible assumption)) | k_in)); (try dsimp only [List.nil_append, List.cons_append]))
  k_with "execs cons" => (k_here; (try k_gentoks); (with_reducible refine' wpAny_execs_cons ?_); (try dsimp only); (try k_fold))
  k_with "ite" => (k_closed; first | (with_reducible refine' ite_tt ?_) | (with_reducible refine' ite_ff ?_) | ((with_reducible refine' ite_neg ?hQz ?_); (case hQz => decide +kernel)) | ((with_reducible refine' ite_pos ?hQz ?_); (case hQz => decide +kernel)))
  k_with "spliced" => k_dflt ((first | (with_reducible refine' args_cons (env := envOf _ _ _ _ _) ?_ ?heQz) | (with_reducible refine' args_cons (env := envOfC _ _ _ _ _) ?_ ?heQz)); (case heQz => exact rfl))
  k_with "eval Call" => k_dflt ((first | (with_reducible refine' Call_ (env := envOf _ _ _ _ _) ?_ ?heQz) | (with_reducible refine' Call_ (env := envOfC _ _ _ _ _) ?_ ?heQz)); (case heQz => exact rfl))
  k_with "exec Assign" => k_dflt ((first | (with_reducible refine' wpAny_Assign_Name (env := envOf _ _ _ _ _) ?_ ?heQz) | (with_reducible refine' wpAny_Assign_Name (env := envOfC _ _ _ _ _) ?_ ?heQz)); (case heQz => exact rfl); (try k_fold))
  k_with "callWith ref" => (k_here; k_dflt first | ((with_reducible refine' callWith_K ?k1Qz ?k2Qz ?_ ?heQz ?hpQz); (case k1Qz => with_reducible assumption); (case k2Qz => k_is); (case heQz => exact rfl); (case hpQz => exact rfl); k_whole) | ((with_reducible refine' callWith_K0 ?k1Qz ?k2Qz ?_); (case k1Qz => (first | with_reducible assumption | (refine' Frag.In.keeps ?xQz (Fr.keep ?fQz); (case fQz => with_reducible assumption); (case xQz => with_reducible assumption)) | k_in)); (case k2Qz => k_is); k_whole))
  k_with "storeName" => (k_here; k_dflt first | ((with_reducible refine' stN ?FQz ?NQz ?_ ?aQz ?bQz); (case FQz => with_reducible assumption); (case NQz => with_reducible assumption); (case aQz => exact rfl); (case bQz => kernel_rfl!); k_whole; intro h'e14 F'e14 N'e14; (try k_sweep)) | (name_kind "local"; (with_reducible refine' storeC_L ?FQz ?NQz ?_ ?aQz ?bQz); (case FQz => with_reducible assumption); (case NQz => with_reducible assumption); (case aQz => exact rfl); (case bQz => kernel_rfl!); k_whole; intro h'e14 F'e14 N'e14; (try k_sweep)))
  k_with "mine room" => first | exact Nat.le_of_ble_eq_true rfl | ((try simp only [recursionLimit]); (try dsimp only [Around.deeper, Around.in1, Around.mark, rnd]); first | exact room_le (by with_reducible assumption) rfl | omega) | fail "mine"
  k_with "mine enter" => (refine wpAny_call ?_; k_dflt ((with_reducible refine' code_def ?k1Qz ?k2Qz ?k3Qz ?k4Qz ?k5Qz ?kAQz ?kFQz ?kKQz ?k6Qz ?k7Qz ?k8Qz ?k9Qz ?kBQz ?_ ?c2Qz ?c3Qz ?c4Qz ?c5Qz); (case kAQz => exact rfl); (case kFQz => assumption); (case kKQz => assumption); (case k1Qz => k_asm); (case k2Qz => k_asm); (case k3Qz => k_asm); (case k4Qz => k_asm); (case k5Qz => k_asm); (case k6Qz => k_is); (case k7Qz => k_is); (case k8Qz => ktr_room); (case k9Qz => exact BindsTo.of_eq rfl); (case c5Qz => decide); (case kBQz => exact locs rfl); (case c2Qz => exact rfl); (case c3Qz => exact rfl); (case c4Qz => exact rfl); k_whole; intro g'e16 L'e16 h'e16 FG'e16 F'e16 N'e16 B'e16 X'e16 T'e16; (try dsimp only); (try k_fold)))
  k_with "mine pick" => first | exact Pick.head | (refine' Pick.tail ?pkQz; (case pkQz => k_extra "mine pick")) | fail "mine"
  k_with "mine mem" => first | with_reducible assumption | exact mem_hd | (refine' mem_tl ?pmQz; (case pmQz => k_extra "mine mem")) | (refine' Sub.mem ?pgQz ?pmQz; (case pgQz => with_reducible assumption); (case pmQz => k_extra "mine mem")) | (refine' Grow.mem ?pgQz ?pmQz; (case pgQz => with_reducible assumption); (case pmQz => k_extra "mine mem")) | fail "mine"
  k_with "mine at" => first | (with_reducible exact at_hd) | ((with_reducible refine' at_tl ?pmQz); (case pmQz => k_extra "mine at")) | fail "mine"
  k_with "mine pj" => first | with_reducible assumption | exact pj_l (by with_reducible assumption) | exact pj_l (pj_r (by with_reducible assumption)) | exact pj_r (by with_reducible assumption) | exact pj_l (pj_2 (by with_reducible assumption)) | exact pj_2 (by with_reducible assumption) | exact pj_l (pj_2 (pj_r (by with_reducible assumption))) | exact pj_2 (pj_r (by with_reducible assumption)) | exact pj_l (pj_4 (by with_reducible assumption)) | exact pj_4 (by with_reducible assumption) | exact pj_l (pj_4 (pj_r (by with_reducible assumption))) | exact pj_4 (pj_r (by with_reducible assumption)) | exact pj_l (pj_4 (pj_2 (by with_reducible assumption))) | exact pj_4 (pj_2 (by with_reducible assumption)) | exact pj_l (pj_4 (pj_2 (pj_r (by with_reducible assumption)))) | exact pj_4 (pj_2 (pj_r (by with_reducible assumption))) | exact pj_l (pj_8 (by with_reducible assumption)) | exact pj_8 (by with_reducible assumption) | exact pj_l (pj_8 (pj_r (by with_reducible assumption))) | exact pj_8 (pj_r (by with_reducible assumption)) | exact pj_l (pj_8 (pj_2 (by with_reducible assumption))) | exact pj_8 (pj_2 (by with_reducible assumption)) | exact pj_l (pj_8 (pj_2 (pj_r (by with_reducible assumption)))) | exact pj_8 (pj_2 (pj_r (by with_reducible assumption))) | exact pj_l (pj_8 (pj_4 (by with_reducible assumption))) | exact pj_8 (pj_4 (by with_reducible assumption)) | exact pj_l (pj_8 (pj_4 (pj_r (by with_reducible assumption)))) | exact pj_8 (pj_4 (pj_r (by with_reducible assumption))) | exact pj_l (pj_8 (pj_4 (pj_2 (by with_reducible assumption)))) | exact pj_8 (pj_4 (pj_2 (by with_reducible assumption))) | exact pj_l (pj_8 (pj_4 (pj_2 (pj_r (by with_reducible assumption))))) | exact pj_8 (pj_4 (pj_2 (pj_r (by with_reducible assumption)))) | exact pj_l (pj_16 (by with_reducible assumption)) | exact pj_16 (by with_reducible assumption) | exact pj_l (pj_16 (pj_r (by with_reducible assumption))) | exact pj_16 (pj_r (by with_reducible assumption)) | exact pj_l (pj_16 (pj_2 (by with_reducible assumption))) | exact pj_16 (pj_2 (by with_reducible assumption)) | exact pj_l (pj_16 (pj_2 (pj_r (by with_reducible assumption)))) | exact pj_16 (pj_2 (pj_r (by with_reducible assumption))) | exact pj_l (pj_16 (pj_4 (by with_reducible assumption))) | exact pj_16 (pj_4 (by with_reducible assumption)) | exact pj_l (pj_16 (pj_4 (pj_r (by with_reducible assumption)))) | exact pj_16 (pj_4 (pj_r (by with_reducible assumption))) | exact pj_l (pj_16 (pj_4 (pj_2 (by with_reducible assumption)))) | exact pj_16 (pj_4 (pj_2 (by with_reducible assumption))) | exact pj_l (pj_16 (pj_4 (pj_2 (pj_r (by with_reducible assumption))))) | exact pj_16 (pj_4 (pj_2 (pj_r (by with_reducible assumption)))) | exact pj_l (pj_16 (pj_8 (by with_reducible assumption))) | exact pj_16 (pj_8 (by with_reducible assumption)) | exact pj_l (pj_16 (pj_8 (pj_r (by with_reducible assumption)))) | exact pj_16 (pj_8 (pj_r (by with_reducible assumption))) | exact pj_l (pj_16 (pj_8 (pj_2 (by with_reducible assumption)))) | exact pj_16 (pj_8 (pj_2 (by with_reducible assumption))) | exact pj_l (pj_16 (pj_8 (pj_2 (pj_r (by with_reducible assumption))))) | exact pj_16 (pj_8 (pj_2 (pj_r (by with_reducible assumption)))) | exact pj_l (pj_16 (pj_8 (pj_4 (by with_reducible assumption)))) | exact pj_16 (pj_8 (pj_4 (by with_reducible assumption))) | exact pj_l (pj_16 (pj_8 (pj_4 (pj_r (by with_reducible assumption))))) | exact pj_16 (pj_8 (pj_4 (pj_r (by with_reducible assumption)))) | exact pj_l (pj_16 (pj_8 (pj_4 (pj_2 (by with_reducible assumption))))) | exact pj_16 (pj_8 (pj_4 (pj_2 (by with_reducible assumption)))) | exact pj_l (pj_16 (pj_8 (pj_4 (pj_2 (pj_r (by with_reducible assumption)))))) | exact pj_16 (pj_8 (pj_4 (pj_2 (pj_r (by with_reducible assumption))))) | fail "mine"
  k_with "mine new" => first | ((with_reducible refine' ne_new ?hQz ?mQz); (case hQz => with_reducible assumption); (case mQz => k_extra "mine at")) | ((with_reducible refine' ne_new' ?hQz ?mQz); (case hQz => with_reducible assumption); (case mQz => k_extra "mine at")) | ((with_reducible refine' Nat.ne_of_lt ?hQz); (case hQz => k_extra "mine pj")) | ((with_reducible refine' Nat.ne_of_gt ?hQz); (case hQz => k_extra "mine pj")) | fail "mine"
  k_with "mine ne" => first | assumption | (refine Ne.symm ?_; assumption) | k_extra "mine new" | (refine neN ?_; (try dsimp only); first | k_extra "mine new" | omega) | fail "mine"
  k_with "mine off" => first | with_reducible assumption | exact Off.nil | (refine Off.tup ?_; k_extra "mine off") | (refine Off.ne ?_ ?_; (k_extra "mine ne"); (k_extra "mine off")) | fail "mine"
  k_with "mine sub" => first | with_reducible assumption | exact Sub.refl | (refine Sub.tl ?_; k_extra "mine sub") | (refine' Sub.gr ?pgQz ?pkQz; (case pgQz => with_reducible assumption); (case pkQz => k_extra "mine sub")) | fail "mine"
  k_with "call ref" => (k_here; (with_reducible show wpAny _ _ (call (Value.ref 220) [Value.ref _, Value.int _ _]) _ _ _); k_dflt ((with_reducible refine' take_use ?k1Qz ?k2Qz ?k3Qz ?k4Qz ?k5Qz ?a3Qz ?hfQz ?hkQz ?a1Qz ?a2Qz ?a4Qz ?hsQz ?hoQz ?htQz ?offQz ?_); (case k1Qz => k_asm); (case k2Qz => k_asm); (case k3Qz => k_asm); (case k4Qz => k_asm); (case k5Qz => k_asm); (case a3Qz => exact rfl); (case hfQz => exact rfl); (case hkQz => exact rfl); (case a1Qz => exact rfl); (case a2Qz => k_extra "mine room"); (case a4Qz => k_extra "mine room"); (case hoQz => assumption); (case hsQz => k_extra "mine pick"); (case htQz => exact ⟨by decide, by decide⟩); (case offQz => k_extra "mine off")); intro d'e34 td'e34 o'e34 h'e34 tk'e34 hd0e34 hd1e34 ho'e34 F'e34 N'e34; (try dsimp only); (try k_sweep); (try k_fold))
  exact True.intro
--PART A25fTold
section
local macro_rules | `(tactic| k_all) => `(tactic| assumption)
structure TdG where
  (fr : Led) (bl lt ct : Addr) (body : List Value) (nb : Nat) (lo : Obj) (lks : List (Str × Value)) (xs : List Int) (n : Nat) (caps outs : List Int)
noncomputable def tdPre (w : World) (g : TdG) (news : Led) (vs : List Value) : Prop := news = g.fr ∧ vs = [.ref g.bl, .ref g.lt, .ref g.ct] ∧ (g.bl, listOf g.body.toArray g.nb) ∈ g.fr ∧ (g.lt, g.lo) ∈ g.fr ∧ (g.lt == sysModules) = false ∧ g.lo.IsDictOf (PySem.strKind PySem.Challenge.rw_on0017_01.row.prog w) g.lks ∧ LitsAre g.fr g.lks g.outs ∧ CapIs g.fr g.ct g.caps ∧
  WalkAll g.fr g.body g.xs g.n ∧ allRefs g.body ∧ g.n ≤ 16000 ∧ g.outs.length ≤ 100 ∧ (∀ y ∈ g.caps, 0 ≤ y ∧ y < 8) ∧ (∀ y ∈ g.outs, 0 ≤ y ∧ y < 8)
noncomputable def tdPost (g : TdG) (news : Led) (v : Value) : Prop :=
  ∃ B its q ks, v = .ref B ∧ news = (B, listOf its q) :: g.fr ∧ (∀ p ∈ g.fr, p.1 ≠ B) ∧ IntsAre its.toList ks ∧ ks.Pairwise (· < ·) ∧ ∀ y, y ∈ ks ↔ y ∈ g.caps ∨ y ∈ g.outs ∨ y ∈ g.xs
theorem td_end {h₀ h : Heap} {L : Addr} {m : Str → Option Value} {g : TdG} {news fr' : Led} {s : Shared} {Q : Value → Shared → Prop} {B : Addr} {its : Array Value} {q : Nat} {ks : List Int} {kvs : List (Int × Value)} {tk : Nat}
    (hret : ∀ r news' h' tk', Fr h₀ L h' m → News h₀ L h' news' → tdPost g news' r → Q r { s with heap := h', toks := tk' })
    (hI : IntsAre its.toList ks) (hp : ks.Pairwise (· < ·)) (h1 : ∀ y, y ∈ ks ↔ y ∈ kvs.map (·.1)) (h2 : ∀ y, y ∈ kvs.map (·.1) ↔ y ∈ g.caps ∨ y ∈ g.outs ∨ y ∈ g.xs) (hlt : ∀ p ∈ fr', p.1 < B) (sb : Sub g.fr fr') (F : Fr h₀ L h m) (N : News h₀ L h news) (hs : Pick (B, listOf its q) news fr') : Q (.ref B) { s with heap := h, toks := tk } :=
  hret _ _ _ _ F (fun p mm => N p (hs.sub p (by
    rcases List.mem_cons.mp mm with rfl | mm
    · exact .head _
    · exact .tail _ (sb _ mm)))) ⟨B, its, q, ks, rfl, rfl, fun p mm => Nat.ne_of_lt (hlt p (sb p mm)), hI, hp, fun y => (h1 y).trans (h2 y)⟩
section
variable {prog : Program} {w : World} {A : Around} {E : Value → Shared → Prop} {s : Shared} {h₀ : Heap} {L : Addr} {m : Str → Option Value}
theorem tuple_body {D : Addr} {news l : Led} {ys : List Value} {n k : Nat} {xs : List Int} {Q : Value → Shared → Prop} (hW : WalkAll l ys xs k) (hr : allRefs ys) (hk : k ≤ 16000) (F : Fr h₀ L s.heap m) (N : News h₀ L s.heap news) (hm : (D, listOf ys.toArray n) ∈ news)
    (h : ∀ T h', Fr h₀ L h' m → News h₀ L h' ((T, tupO ys) :: news) → Q (.ref T) { s with heap := h' }) : wpAny (model prog w) A (call (.type "tuple") [.ref D]) Q E s :=
  kde_tupleOf F N (N.isList hm) (by have := hW.len hr; rw [List.size_toArray]; omega) rfl (fun T h' F' N' _ => h T h' F' N')
theorem enum_use {elt iter : Expr} {env : Env} {a b : Str} {pa pb tp : Pos} {kk : Nat} {scope : Scope} {cl : List (Str × Addr)} {pos : Pos} {l : Addr} {vs : List Value} {q : Nat} {news : Led} {Q : Value → Shared → Prop} {y : Str} {py : Pos}
    (h8 : vs.length = 8) (hLe : env.locals = L) (hy : env.kindOf y = some .local) (hpp : (env.scope.kind == .class || (env.scope.kind == .module && env.locals != env.globals)) = false) (hh : A.handled = none) (hcell : ∀ y ∈ scope.names, y.2 ≠ .cell) (hkind : scope.kind = .function) (hxa : scope.names.lookup a = some .local) (hxb : scope.names.lookup b = some .local) (hab : ¬ a = b)
    (F : Fr h₀ L s.heap m) (N : News h₀ L s.heap ((l, listOf vs.toArray q) :: news))
    (turn : ∀ (i : Nat) x t fr C oC m₂ h tk (E' : Value → Shared → Prop), i < 8 → PyProof.Rows.LCg.NsObj oC m₂ → m₂ a = some (.int (i : Int) t) → m₂ b = some x → (C, oC) ∈ fr → Fr h₀ L h m → News h₀ L h fr →
      wpAny (model prog w) A (eval elt (compEnvC scope cl C env)) (fun _ s'' => ∃ h' tk', s'' = { s with heap := h', toks := tk' } ∧ Fr h₀ L h' m ∧ News h₀ L h' fr) E' { s with heap := h, toks := tk })
    (fin : ∀ D h tk, Fr h₀ L h (fun z => if z = y then some (.ref D) else m z) → News h₀ L h news → Q .none { s with heap := h, toks := tk }) :
    wpAny (model prog w) A (call (.type "enumerate") [.ref l]) (EnSrc prog w A elt iter (.Tuple [.Name a pa, .Name b pb] kk tp) scope cl pos env (some (assign (.Name y py) env)) E Q) E s :=
  enum_go hLe hy hpp hh hcell hkind hxa hxb hab F N (.head _) (by rw [h8, sizeLine_eq]; omega) (fun i x t fr C oC m₂ h tk E' hi _ q1 q2 q3 q4 _ F' N' => turn i x t fr C oC m₂ h tk E' (h8 ▸ hi) q1 q2 q3 q4 F' N') fun D h tk F' N' => fin D h tk F' fun p mm => N' p (.tail _ mm)
noncomputable def EnEnd (h₀ : Heap) (L : Addr) (m : Str → Option Value) (fr : Led) (s s'' : Shared) : Prop := ∃ h' tk', s'' = { s with heap := h', toks := tk' } ∧ Fr h₀ L h' m ∧ News h₀ L h' fr
theorem EnEnd.intro {h : Heap} {fr : Led} {tk : Nat} (F : Fr h₀ L h m) (N : News h₀ L h fr) : ∃ h' tk', ({ s with heap := h, toks := tk } : Shared) = { s with heap := h', toks := tk' } ∧ Fr h₀ L h' m ∧ News h₀ L h' fr := ⟨h, tk, rfl, F, N⟩
end
section
theorem ln39 : True := by
  k_with "newTuple" => (k_here; k_dflt ((first | with_reducible refine' kup_newTuple ?FQz ?NQz ?_ ?zQz | refine' kup_newTuple ?FQz ?NQz ?_ ?zQz); (case FQz => k_asm); (case NQz => k_asm); (case zQz => kmk_size)); intro D'e160 h'e160 F'e160 N'e160 l1e160; (try k_sweep))
  k_with "newTuple" => (k_here; (with_reducible show wpAny _ _ (newTuple []) _ _ _); k_dflt ((first | with_reducible refine' tup_drop ?FQz ?NQz ?zQz ?_ | refine' tup_drop ?FQz ?NQz ?zQz ?_); (case FQz => k_asm); (case NQz => k_asm); (case zQz => kmk_size)); intro D'e161 h'e161 F'e161 N'e161; (try k_sweep))
  k_with "eval Dict nil nil" => (k_here; k_dflt ((first | with_reducible refine' dict0_drop ?FQz ?NQz ?bQz ?_ | refine' dict0_drop ?FQz ?NQz ?bQz ?_); (case FQz => k_asm); (case NQz => k_asm); (case bQz => exact Top.nolimit (by k_asm))); intro d'e153 h'e153 F'e153 N'e153; (try k_sweep))
  k_with "mine con" => ((case k1Qz => k_asm); (case k2Qz => k_asm); (case k3Qz => k_asm); (case k4Qz => k_asm); (case k5Qz => k_asm); (case a3Qz => exact rfl); (case hfQz => exact rfl); (case hkQz => exact rfl); (case a1Qz => exact rfl); (case a2Qz => k_extra "mine room"); (case a4Qz => k_extra "mine room"))
  k_with "call ref" => (k_here; (with_reducible show wpAny _ _ (call (Value.ref 202) _) _ _ _); k_dflt ((first | with_reducible refine' world_use ?k1Qz ?k2Qz ?k3Qz ?k4Qz ?k5Qz ?a3Qz ?hfQz ?hkQz ?a1Qz ?a2Qz ?a4Qz ?_ | refine' world_use ?k1Qz ?k2Qz ?k3Qz ?k4Qz ?k5Qz ?a3Qz ?hfQz ?hkQz ?a1Qz ?a2Qz ?a4Qz ?_); k_extra "mine con"); intro nd'e163 od'e163 x'e163 d'e163 es'e163 n'e163 kvs'e163 h'e163 tk'e163 hn'e163 hb'e163 lo'e163 hd'e163 hl'e163 hoff'e163 l1e163 l2e163 l3e163 F'e163 N'e163; (try k_lt2 l2e163); (try k_lt2 l3e163); (try dsimp only); (try k_sweep); (try k_fold))
  k_with "call ref" => (k_here; (with_reducible show wpAny _ _ (call (Value.ref 159) _) _ _ _); k_dflt ((first | with_reducible refine' row_use ?k1Qz ?k2Qz ?k3Qz ?k4Qz ?k5Qz ?a3Qz ?hfQz ?hkQz ?a1Qz ?a2Qz ?a4Qz ?h1Qz ?h2Qz ?h3Qz ?h4Qz ?_ | refine' row_use ?k1Qz ?k2Qz ?k3Qz ?k4Qz ?k5Qz ?a3Qz ?hfQz ?hkQz ?a1Qz ?a2Qz ?a4Qz ?h1Qz ?h2Qz ?h3Qz ?h4Qz ?_); k_extra "mine con"; (case h1Qz => exact rfl); (case h2Qz => exact rfl); (case h3Qz => exact rfl); (case h4Qz => exact rfl)); intro x'e164 d'e164 es'e164 n'e164 h'e164 tk'e164 hu'e164 l1e164 l2e164 F'e164 N'e164; (try (have l1be164 := l1e164; replace l1e164 := allLt_of l1e164; dsimp only [AllLt] at l1e164)); (try k_lt2 l2e164); (try dsimp only); (try k_sweep); (try k_fold))
  k_with "getAttr ref" => (k_here; k_dflt ((first | with_reducible refine' get_own ?k1Qz ?k2Qz ?k3Qz ?k4Qz ?k5Qz ?k6Qz ?k7Qz ?k8Qz ?k9Qz ?_ | refine' get_own ?k1Qz ?k2Qz ?k3Qz ?k4Qz ?k5Qz ?k6Qz ?k7Qz ?k8Qz ?k9Qz ?_); (case k1Qz => k_asm); (case k2Qz => k_asm); (case k3Qz => (refine' InstAt.of_news ?NQz ?h1Qz ?h2Qz; (case NQz => k_asm); (case h1Qz => k_extra "mine mem"); (case h2Qz => k_extra "mine mem"))); (case k4Qz => k_is); (case k5Qz => k_is); (case k6Qz => k_is); (case k7Qz => k_is); (case k8Qz => assumption); (case k9Qz => exact rfl); k_whole); (try k_fold))
  k_with "setItem ref str" => (k_here; (rename Obj.IsDictOf _ _ _ => hd9e166); k_dflt ((first | with_reducible refine' named_set hd9e166 ?hlQz ?FQz ?NQz ?hsQz ?offQz ?_ | refine' named_set hd9e166 ?hlQz ?FQz ?NQz ?hsQz ?offQz ?_); (case FQz => k_asm); (case NQz => k_asm); (case hlQz => omega); (case hsQz => k_extra "mine pick"); (case offQz => k_extra "mine off")); intro h'e166 od'e166 hd'e166 F'e166 N'e166; (try k_sweep))
  k_with "exec Assign cons ListComp" => (k_here; (with_reducible show wpAny _ _ (exec (PySem.Stmt.Assign [PySem.Expr.Name _ _] (PySem.Expr.ListComp _ _ _ _) _) _) _ _ _); k_dflt ((first | with_reducible refine' comp_assignT ?c0Qz ?c1Qz ?c2Qz ?c3Qz ?_ ?c5Qz | refine' comp_assignT ?c0Qz ?c1Qz ?c2Qz ?c3Qz ?_ ?c5Qz); (case c0Qz => exact rfl); (case c1Qz => with_unfolding_all rfl); (case c2Qz => rfl); (case c3Qz => decide); (case c5Qz => intro _; with_unfolding_all rfl)))
  k_with "call ref" => (k_here; (with_reducible show wpAny _ _ (call (Value.ref 245) _) _ _ _); (k_dflt (show wpAny _ _ (call (Value.ref 245) []) _ _ _)); k_dflt ((first | with_reducible refine' types_drop ?k1Qz ?k2Qz ?k3Qz ?k4Qz ?k5Qz ?a3Qz ?hfQz ?hkQz ?a1Qz ?a2Qz ?a4Qz ?_ | refine' types_drop ?k1Qz ?k2Qz ?k3Qz ?k4Qz ?k5Qz ?a3Qz ?hfQz ?hkQz ?a1Qz ?a2Qz ?a4Qz ?_); k_extra "mine con"); intro l'e168 vs'e168 n'e168 h'e168 tk'e168 h8'e168 F'e168 N'e168 l1e168; clear l1e168; (try dsimp only); (try k_sweep); (try k_fold))
  k_with "call type:enumerate" => (k_here; (rename _ = 8 => h89e169); k_dflt ((first | with_reducible refine' enum_use h89e169 ?b1Qz ?b2Qz ?b3Qz ?hhQz ?c1Qz ?c2Qz ?c3Qz ?c4Qz ?c5Qz ?FQz ?NQz ?_ ?_ | refine' enum_use h89e169 ?b1Qz ?b2Qz ?b3Qz ?hhQz ?c1Qz ?c2Qz ?c3Qz ?c4Qz ?c5Qz ?FQz ?NQz ?_ ?_); (case b1Qz => exact rfl); (case b2Qz => exact rfl); (case b3Qz => exact rfl); (case hhQz => rfl); (case c1Qz => decide); (case c2Qz => rfl); (case c3Qz => rfl); (case c4Qz => rfl); (case c5Qz => decide); (case FQz => k_asm); (case NQz => k_asm)); (intro i'e169 x'e169 t'e169 fr'e169 C'e169 oC'e169 m2'e169 h2'e169 tk2'e169 E2'e169 hi'e169 hC'e169 hxa'e169 hxb'e169 hmC'e169 F'e169 N'e169; (try dsimp only); (try k_sweep)); rotate_left; (intro D'e169 h2'e169 tk2'e169 F'e169 N'e169; (try dsimp only); (try k_sweep)); rotate_right)
  k_with "call type:tuple" => (k_here; (rename WalkAll _ _ _ _ => wa9e170); (rename allRefs _ => ar9e170); k_dflt ((first | with_reducible refine' tuple_body wa9e170 ar9e170 ?kQz ?FQz ?NQz ?mQz ?_ | refine' tuple_body wa9e170 ar9e170 ?kQz ?FQz ?NQz ?mQz ?_); (case FQz => k_asm); (case NQz => k_asm); (case mQz => k_extra "mine mem"); (case kQz => assumption)); intro T'e170 h'e170 F'e170 N'e170; (try dsimp only); (try k_sweep); (try k_fold))
  k_with "call ref" => (k_here; (with_reducible show wpAny _ _ (call (Value.ref 90) _) _ _ _); k_dflt ((first | with_reducible refine' fn_use2 ?k1Qz ?k2Qz ?k3Qz ?k4Qz ?k5Qz ?a3Qz ?hfQz ?hkQz ?a1Qz ?a2Qz ?a4Qz ?h1Qz ?h2Qz ?h3Qz ?h4Qz ?h5Qz ?h6Qz ?h7Qz ?_ | refine' fn_use2 ?k1Qz ?k2Qz ?k3Qz ?k4Qz ?k5Qz ?a3Qz ?hfQz ?hkQz ?a1Qz ?a2Qz ?a4Qz ?h1Qz ?h2Qz ?h3Qz ?h4Qz ?h5Qz ?h6Qz ?h7Qz ?_); k_extra "mine con"; (case h1Qz => exact rfl); (case h2Qz => exact rfl); (case h3Qz => exact rfl); (case h4Qz => exact rfl); (case h5Qz => exact rfl); (case h6Qz => exact rfl); (case h7Qz => exact rfl)); intro x'e171 d'e171 es'e171 n'e171 h'e171 tk'e171 hu'e171 l1e171 l2e171 F'e171 N'e171; (try dsimp only); (try k_sweep); (try k_fold))
  k_with "call ref" => (k_here; (with_reducible show wpAny _ _ (call (Value.ref 73) _) _ _ _); (rename Obj.IsDictOf _ _ _ => hd9e172); k_dflt ((first | with_reducible refine' told_fin hd9e172 ?k1Qz ?k2Qz ?k3Qz ?k4Qz ?k5Qz ?a3Qz ?hfQz ?hkQz ?a1Qz ?a2Qz ?a4Qz ?w1Qz ?w2Qz ?w3Qz ?w4Qz ?w5Qz ?w7Qz ?w8Qz ?w9Qz ?w10Qz ?w11Qz ?f1Qz ?f2Qz ?f3Qz ?f4Qz ?t1Qz ?t2Qz ?t3Qz ?t4Qz ?t5Qz ?t6Qz ?t7Qz ?t8Qz ?t9Qz ?t10Qz ?t11Qz ?sbQz ?_ | refine' told_fin hd9e172 ?k1Qz ?k2Qz ?k3Qz ?k4Qz ?k5Qz ?a3Qz ?hfQz ?hkQz ?a1Qz ?a2Qz ?a4Qz ?w1Qz ?w2Qz ?w3Qz ?w4Qz ?w5Qz ?w7Qz ?w8Qz ?w9Qz ?w10Qz ?w11Qz ?f1Qz ?f2Qz ?f3Qz ?f4Qz ?t1Qz ?t2Qz ?t3Qz ?t4Qz ?t5Qz ?t6Qz ?t7Qz ?t8Qz ?t9Qz ?t10Qz ?t11Qz ?sbQz ?_); k_extra "mine con"; (case w1Qz => k_extra "mine mem"); (case w2Qz => k_extra "mine mem"); (case w3Qz => with_reducible assumption); (case w4Qz => with_reducible assumption); (case w5Qz => k_extra "mine mem"); (case w7Qz => with_reducible assumption); (case w8Qz => k_extra "mine mem"); (case w9Qz => k_extra "mine mem"); (case w10Qz => with_reducible assumption); (case w11Qz => k_extra "mine mem"); (case f1Qz => k_extra "mine mem"); (case f2Qz => k_extra "mine mem"); (case f3Qz => with_reducible assumption); (case f4Qz => k_extra "mine mem"); (case t5Qz => with_reducible assumption); (case t1Qz => with_reducible assumption); (case t2Qz => with_reducible assumption); (case t3Qz => with_reducible assumption); (case t4Qz => with_reducible assumption); (case t6Qz => with_reducible assumption); (case t7Qz => with_reducible assumption); (case t8Qz => with_reducible assumption); (case t9Qz => with_reducible assumption); (case t10Qz => with_reducible assumption); (case t11Qz => with_reducible assumption); (case sbQz => k_extra "mine sub")); intro fo'e172 od'e172 kvs'e172 h'e172 tk'e172 lo'e172 hd'e172 hb'e172 hk'e172 F'e172 N'e172; (try dsimp only); (try k_sweep); (try k_fold))
  k_with "call builtin:sorted" => (k_here; (rename Obj.IsDictOf _ _ _ => hd9e173); k_dflt ((first | with_reducible refine' sorted_dict hd9e173 ?hhQz ?FQz ?NQz ?mQz ?loQz ?hbQz ?_ | refine' sorted_dict hd9e173 ?hhQz ?FQz ?NQz ?mQz ?loQz ?hbQz ?_); (case hhQz => rfl); (case FQz => k_asm); (case NQz => k_asm); (case mQz => k_extra "mine mem"); (case loQz => with_reducible assumption); (case hbQz => with_reducible assumption)); intro D'e173 its'e173 q'e173 ks'e173 h'e173 tk'e173 hI'e173 hp'e173 hm'e173 hl'e173 F'e173 N'e173; (try dsimp only); (try k_sweep))
  k_with "Exists" => (k_here; k_dflt ((first | with_reducible refine' EnEnd.intro ?FQz ?NQz | refine' EnEnd.intro ?FQz ?NQz); (case FQz => k_asm); (case NQz => first | k_asm | exact fun p mm => (by k_asm : News _ _ _ (_ :: _)) p (.tail _ mm))))
  exact True.intro
set_option maxRecDepth 100000 in
set_option maxHeartbeats 8000000 in
theorem told_con (w : World) : Con w 283 430 5400 (tdPre w) tdPost := by
  unfold Con
  k_fill
  rintro ⟨fr, bl, lt, ct, body, nb, lo, lks, xs, n, caps, outs⟩ mean mg mb env outer gd A₀ base h₀ L m news s vs Q E B F X N T hf hk ⟨rfl, rfl, hbl, hlt, hlo, hld, hL, hC, hW, hr, hn, ho, hcb, hob⟩ hret
  try dsimp only at *
  k_extra "mine enter"
  k_steps
  (rename IntsAre _ _ => hI9)
  (rename List.Pairwise _ _ => hp9)
  refine' td_end hret hI9 hp9 ?h1 ?h2 ?lt ?sb ?F ?N ?hs
  case F => k_asm
  case N => k_asm
  case hs => exact Pick.head
  case h1 => assumption
  case h2 => assumption
  case lt => assumption
  case sb => k_extra "mine sub"
end

end
theorem ln40 : True := by
  k_with_none
  k_with "eval Name" => (k_here; (with_reducible show wpAny _ _ (eval (PySem.Expr.Name _ _) (envOf _ _ _ _ _)) _ _ _); name_kind "globalImplicit"; k_dflt ((with_reducible refine' name_K ?k0Qz ?k1Qz ?k2Qz ?k3Qz ?_ ?aQz ?bQz ?cQz); (case k0Qz => with_reducible assumption); (case k1Qz => with_reducible assumption); (case k2Qz => k_asm); (case k3Qz => k_is); (case aQz => exact rfl); (case bQz => kernel_rfl!); (case cQz => decide +kernel); k_whole))
  k_with "eval Name" => (k_here; (with_reducible show wpAny _ _ (eval (PySem.Expr.Name _ _) (envOf _ _ _ _ _)) _ _ _); name_kind "globalImplicit"; name_is_builtin; k_dflt ((with_reducible refine' name_B ?k0Qz ?k1Qz ?k2Qz ?k3Qz ?k4Qz ?k5Qz ?_ ?aQz ?bQz ?cQz); (case k0Qz => with_reducible assumption); (case k1Qz => with_reducible assumption); (case k2Qz => k_asm); (case k3Qz => k_is); (case k4Qz => boot_fast); (case k5Qz => decide +kernel); (case aQz => exact rfl); (case bQz => kernel_rfl!); (case cQz => decide +kernel); k_whole))
  k_with "eval Name" => (k_here; (with_reducible show wpAny _ _ (eval (PySem.Expr.Name _ _) (envOf _ _ _ _ _)) _ _ _); name_kind "local"; k_dflt ((with_reducible refine' ld ?k1Qz ?k2Qz ?_ ?aQz ?bQz ?cQz); (case k1Qz => with_reducible assumption); (case aQz => exact rfl); (case bQz => kernel_rfl!); (case cQz => decide +kernel); (case k2Qz => exact rfl); k_whole))
  k_with "eval Name" => (k_here; (with_reducible show wpAny _ _ (eval (PySem.Expr.Name _ _) (envOfC _ _ _ _ _)) _ _ _); k_dflt first | (name_kind "local"; (with_reducible refine' nameC_L ?FQz ?vQz ?_ ?aQz ?bQz ?cQz); (case FQz => with_reducible assumption); (case aQz => exact rfl); (case bQz => kernel_rfl!); (case cQz => decide +kernel); (case vQz => first | exact rfl | assumption); k_whole) | (name_kind "cell"; (with_reducible refine' nameC_C ?NQz ?kQz ?mQz ?dQz ?_ ?aQz ?bQz ?cQz); (case aQz => exact rfl); (case bQz => kernel_rfl!); (case cQz => decide +kernel); (case NQz => with_reducible assumption); (case kQz => exact rfl); (case mQz => k_mem); (case dQz => k_asm); k_whole) | (name_kind "globalImplicit"; name_is_builtin; (with_reducible refine' nameC_B ?FQz ?XQz ?TQz ?eQz ?vQz ?nQz ?_ ?aQz ?bQz ?cQz); (case FQz => with_reducible assumption); (case XQz => with_reducible assumption); (case TQz => k_asm); (case aQz => exact rfl); (case bQz => kernel_rfl!); (case cQz => decide +kernel); (case eQz => k_is); (case vQz => boot_fast); (case nQz => decide +kernel); k_whole) | (name_kind "globalImplicit"; (with_reducible refine' nameC_K ?FQz ?XQz ?TQz ?eQz ?_ ?aQz ?bQz ?cQz); (case FQz => with_reducible assumption); (case XQz => with_reducible assumption); (case TQz => k_asm); (case aQz => exact rfl); (case bQz => kernel_rfl!); (case cQz => decide +kernel); (case eQz => k_is); k_whole))
  k_with "eval Name" => (k_here; (with_reducible show wpAny _ _ (eval (PySem.Expr.Name _ _) (compEnvC _ _ _ _)) _ _ _); k_dflt first | (name_kind "local"; (with_reducible refine' LCgL.ld_own ?NQz ?mQz ?CQz ?xQz ?_ ?aQz ?bQz ?cQz); (case NQz => with_reducible assumption); (case mQz => k_mem); (case CQz => with_reducible assumption); (case xQz => assumption); (case aQz => exact rfl); (case bQz => kernel_rfl!); (case cQz => decide +kernel); k_whole) | (name_kind "globalImplicit"; name_is_builtin; (with_reducible refine' LCgL.ld_built ?FQz ?XQz ?TQz ?eQz ?vQz ?nQz ?_ ?gQz ?hQz ?aQz ?bQz ?cQz); (case FQz => with_reducible assumption); (case XQz => with_reducible assumption); (case TQz => with_reducible assumption); (case gQz => exact rfl); (case hQz => exact rfl); (case aQz => exact rfl); (case bQz => kernel_rfl!); (case cQz => decide +kernel); (case eQz => k_is); (case vQz => boot_fast); (case nQz => decide +kernel); k_whole) | (name_kind "globalImplicit"; (with_reducible refine' LCgL.ld_global ?FQz ?XQz ?TQz ?eQz ?_ ?gQz ?aQz ?bQz ?cQz); (case FQz => with_reducible assumption); (case XQz => with_reducible assumption); (case TQz => with_reducible assumption); (case gQz => exact rfl); (case aQz => exact rfl); (case bQz => kernel_rfl!); (case cQz => decide +kernel); (case eQz => k_is); k_whole) | (name_kind "free"; (with_reducible refine' lcf_free ?NQz ?kQz ?mQz ?dQz ?_ ?aQz ?bQz ?cQz ?eQz); (case aQz => exact rfl); (case bQz => kernel_rfl!); (case cQz => decide +kernel); (case eQz => decide +kernel); (case NQz => with_reducible assumption); (case kQz => exact rfl); (case mQz => k_mem); (case dQz => k_asm); k_whole))
  k_with "newTuple" => (k_here; k_dflt ((with_reducible refine' kup_newTuple ?FQz ?NQz ?_ ?zQz); (case FQz => with_reducible assumption); (case NQz => with_reducible assumption); (case zQz => first | exact Nat.le_of_ble_eq_true rfl | kmk_size)); intro D'e5 h'e5 F'e5 N'e5 l1e5; (try k_sweep))
  k_with "newList" => (k_here; k_dflt ((with_reducible refine' newList_K ?FQz ?NQz ?_ ?zQz); (case FQz => with_reducible assumption); (case NQz => with_reducible assumption); (case zQz => first | exact Nat.le_of_ble_eq_true rfl | size_fits)); intro D'e6 h'e6 F'e6 N'e6 l1e6; (try k_sweep))
  k_with "And" => ((with_reducible show Frag.In _ _ ∧ _); refine' And.intro ?kQz ?_; (case kQz => k_dflt (first | with_reducible assumption | (refine' Frag.In.keeps ?xQz (Fr.keep ?fQz); (case fQz => with_reducible assumption); (case xQz => with_reducible assumption)) | k_in)); (try dsimp only [List.nil_append, List.cons_append]))
  k_with "execs cons" => (k_here; (try k_gentoks); (with_reducible refine' wpAny_execs_cons ?_); (try dsimp only); (try k_fold))
  k_with "ite" => (k_closed; first | (with_reducible refine' ite_tt ?_) | (with_reducible refine' ite_ff ?_) | ((with_reducible refine' ite_neg ?hQz ?_); (case hQz => decide +kernel)) | ((with_reducible refine' ite_pos ?hQz ?_); (case hQz => decide +kernel)))
  k_with "spliced" => k_dflt ((first | (with_reducible refine' args_cons (env := envOf _ _ _ _ _) ?_ ?heQz) | (with_reducible refine' args_cons (env := envOfC _ _ _ _ _) ?_ ?heQz)); (case heQz => exact rfl))
  k_with "eval Call" => k_dflt ((first | (with_reducible refine' Call_ (env := envOf _ _ _ _ _) ?_ ?heQz) | (with_reducible refine' Call_ (env := envOfC _ _ _ _ _) ?_ ?heQz)); (case heQz => exact rfl))
  k_with "exec Assign" => k_dflt ((first | (with_reducible refine' wpAny_Assign_Name (env := envOf _ _ _ _ _) ?_ ?heQz) | (with_reducible refine' wpAny_Assign_Name (env := envOfC _ _ _ _ _) ?_ ?heQz)); (case heQz => exact rfl); (try k_fold))
  k_with "callWith ref" => (k_here; k_dflt first | ((with_reducible refine' callWith_K ?k1Qz ?k2Qz ?_ ?heQz ?hpQz); (case k1Qz => with_reducible assumption); (case k2Qz => k_is); (case heQz => exact rfl); (case hpQz => exact rfl); k_whole) | ((with_reducible refine' callWith_K0 ?k1Qz ?k2Qz ?_); (case k1Qz => (first | with_reducible assumption | (refine' Frag.In.keeps ?xQz (Fr.keep ?fQz); (case fQz => with_reducible assumption); (case xQz => with_reducible assumption)) | k_in)); (case k2Qz => k_is); k_whole))
  k_with "storeName" => (k_here; k_dflt first | ((with_reducible refine' stN ?FQz ?NQz ?_ ?aQz ?bQz); (case FQz => with_reducible assumption); (case NQz => with_reducible assumption); (case aQz => exact rfl); (case bQz => kernel_rfl!); k_whole; intro h'e14 F'e14 N'e14; (try k_sweep)) | (name_kind "local"; (with_reducible refine' storeC_L ?FQz ?NQz ?_ ?aQz ?bQz); (case FQz => with_reducible assumption); (case NQz => with_reducible assumption); (case aQz => exact rfl); (case bQz => kernel_rfl!); k_whole; intro h'e14 F'e14 N'e14; (try k_sweep)))
  k_with "mine room" => first | exact Nat.le_of_ble_eq_true rfl | ((try simp only [recursionLimit]); (try dsimp only [Around.deeper, Around.in1, Around.mark, rnd]); first | exact room_le (by with_reducible assumption) rfl | omega) | fail "mine"
  k_with "mine enter" => (refine wpAny_call ?_; k_dflt ((with_reducible refine' code_def ?k1Qz ?k2Qz ?k3Qz ?k4Qz ?k5Qz ?kAQz ?kFQz ?kKQz ?k6Qz ?k7Qz ?k8Qz ?k9Qz ?kBQz ?_ ?c2Qz ?c3Qz ?c4Qz ?c5Qz); (case kAQz => exact rfl); (case kFQz => assumption); (case kKQz => assumption); (case k1Qz => k_asm); (case k2Qz => k_asm); (case k3Qz => k_asm); (case k4Qz => k_asm); (case k5Qz => k_asm); (case k6Qz => k_is); (case k7Qz => k_is); (case k8Qz => ktr_room); (case k9Qz => exact BindsTo.of_eq rfl); (case c5Qz => decide); (case kBQz => exact locs rfl); (case c2Qz => exact rfl); (case c3Qz => exact rfl); (case c4Qz => exact rfl); k_whole; intro g'e16 L'e16 h'e16 FG'e16 F'e16 N'e16 B'e16 X'e16 T'e16; (try dsimp only); (try k_fold)))
  k_with "mine pick" => first | exact Pick.head | (refine' Pick.tail ?pkQz; (case pkQz => k_extra "mine pick")) | fail "mine"
  k_with "mine mem" => first | with_reducible assumption | exact mem_hd | (refine' mem_tl ?pmQz; (case pmQz => k_extra "mine mem")) | (refine' Sub.mem ?pgQz ?pmQz; (case pgQz => with_reducible assumption); (case pmQz => k_extra "mine mem")) | (refine' Grow.mem ?pgQz ?pmQz; (case pgQz => with_reducible assumption); (case pmQz => k_extra "mine mem")) | fail "mine"
  k_with "mine at" => first | (with_reducible exact at_hd) | ((with_reducible refine' at_tl ?pmQz); (case pmQz => k_extra "mine at")) | fail "mine"
  k_with "mine pj" => first | with_reducible assumption | exact pj_l (by with_reducible assumption) | exact pj_l (pj_r (by with_reducible assumption)) | exact pj_r (by with_reducible assumption) | exact pj_l (pj_2 (by with_reducible assumption)) | exact pj_2 (by with_reducible assumption) | exact pj_l (pj_2 (pj_r (by with_reducible assumption))) | exact pj_2 (pj_r (by with_reducible assumption)) | exact pj_l (pj_4 (by with_reducible assumption)) | exact pj_4 (by with_reducible assumption) | exact pj_l (pj_4 (pj_r (by with_reducible assumption))) | exact pj_4 (pj_r (by with_reducible assumption)) | exact pj_l (pj_4 (pj_2 (by with_reducible assumption))) | exact pj_4 (pj_2 (by with_reducible assumption)) | exact pj_l (pj_4 (pj_2 (pj_r (by with_reducible assumption)))) | exact pj_4 (pj_2 (pj_r (by with_reducible assumption))) | exact pj_l (pj_8 (by with_reducible assumption)) | exact pj_8 (by with_reducible assumption) | exact pj_l (pj_8 (pj_r (by with_reducible assumption))) | exact pj_8 (pj_r (by with_reducible assumption)) | exact pj_l (pj_8 (pj_2 (by with_reducible assumption))) | exact pj_8 (pj_2 (by with_reducible assumption)) | exact pj_l (pj_8 (pj_2 (pj_r (by with_reducible assumption)))) | exact pj_8 (pj_2 (pj_r (by with_reducible assumption))) | exact pj_l (pj_8 (pj_4 (by with_reducible assumption))) | exact pj_8 (pj_4 (by with_reducible assumption)) | exact pj_l (pj_8 (pj_4 (pj_r (by with_reducible assumption)))) | exact pj_8 (pj_4 (pj_r (by with_reducible assumption))) | exact pj_l (pj_8 (pj_4 (pj_2 (by with_reducible assumption)))) | exact pj_8 (pj_4 (pj_2 (by with_reducible assumption))) | exact pj_l (pj_8 (pj_4 (pj_2 (pj_r (by with_reducible assumption))))) | exact pj_8 (pj_4 (pj_2 (pj_r (by with_reducible assumption)))) | exact pj_l (pj_16 (by with_reducible assumption)) | exact pj_16 (by with_reducible assumption) | exact pj_l (pj_16 (pj_r (by with_reducible assumption))) | exact pj_16 (pj_r (by with_reducible assumption)) | exact pj_l (pj_16 (pj_2 (by with_reducible assumption))) | exact pj_16 (pj_2 (by with_reducible assumption)) | exact pj_l (pj_16 (pj_2 (pj_r (by with_reducible assumption)))) | exact pj_16 (pj_2 (pj_r (by with_reducible assumption))) | exact pj_l (pj_16 (pj_4 (by with_reducible assumption))) | exact pj_16 (pj_4 (by with_reducible assumption)) | exact pj_l (pj_16 (pj_4 (pj_r (by with_reducible assumption)))) | exact pj_16 (pj_4 (pj_r (by with_reducible assumption))) | exact pj_l (pj_16 (pj_4 (pj_2 (by with_reducible assumption)))) | exact pj_16 (pj_4 (pj_2 (by with_reducible assumption))) | exact pj_l (pj_16 (pj_4 (pj_2 (pj_r (by with_reducible assumption))))) | exact pj_16 (pj_4 (pj_2 (pj_r (by with_reducible assumption)))) | exact pj_l (pj_16 (pj_8 (by with_reducible assumption))) | exact pj_16 (pj_8 (by with_reducible assumption)) | exact pj_l (pj_16 (pj_8 (pj_r (by with_reducible assumption)))) | exact pj_16 (pj_8 (pj_r (by with_reducible assumption))) | exact pj_l (pj_16 (pj_8 (pj_2 (by with_reducible assumption)))) | exact pj_16 (pj_8 (pj_2 (by with_reducible assumption))) | exact pj_l (pj_16 (pj_8 (pj_2 (pj_r (by with_reducible assumption))))) | exact pj_16 (pj_8 (pj_2 (pj_r (by with_reducible assumption)))) | exact pj_l (pj_16 (pj_8 (pj_4 (by with_reducible assumption)))) | exact pj_16 (pj_8 (pj_4 (by with_reducible assumption))) | exact pj_l (pj_16 (pj_8 (pj_4 (pj_r (by with_reducible assumption))))) | exact pj_16 (pj_8 (pj_4 (pj_r (by with_reducible assumption)))) | exact pj_l (pj_16 (pj_8 (pj_4 (pj_2 (by with_reducible assumption))))) | exact pj_16 (pj_8 (pj_4 (pj_2 (by with_reducible assumption)))) | exact pj_l (pj_16 (pj_8 (pj_4 (pj_2 (pj_r (by with_reducible assumption)))))) | exact pj_16 (pj_8 (pj_4 (pj_2 (pj_r (by with_reducible assumption))))) | fail "mine"
  k_with "mine new" => first | ((with_reducible refine' ne_new ?hQz ?mQz); (case hQz => with_reducible assumption); (case mQz => k_extra "mine at")) | ((with_reducible refine' ne_new' ?hQz ?mQz); (case hQz => with_reducible assumption); (case mQz => k_extra "mine at")) | ((with_reducible refine' Nat.ne_of_lt ?hQz); (case hQz => k_extra "mine pj")) | ((with_reducible refine' Nat.ne_of_gt ?hQz); (case hQz => k_extra "mine pj")) | fail "mine"
  k_with "mine ne" => first | assumption | (refine Ne.symm ?_; assumption) | k_extra "mine new" | (refine neN ?_; (try dsimp only); first | k_extra "mine new" | omega) | fail "mine"
  k_with "mine off" => first | with_reducible assumption | exact Off.nil | (refine Off.tup ?_; k_extra "mine off") | (refine Off.ne ?_ ?_; (k_extra "mine ne"); (k_extra "mine off")) | fail "mine"
  k_with "mine sub" => first | with_reducible assumption | exact Sub.refl | (refine Sub.tl ?_; k_extra "mine sub") | (refine' Sub.gr ?pgQz ?pkQz; (case pgQz => with_reducible assumption); (case pkQz => k_extra "mine sub")) | fail "mine"
  k_with "call ref" => (k_here; (with_reducible show wpAny _ _ (call (Value.ref 220) [Value.ref _, Value.int _ _]) _ _ _); k_dflt ((with_reducible refine' take_use ?k1Qz ?k2Qz ?k3Qz ?k4Qz ?k5Qz ?a3Qz ?hfQz ?hkQz ?a1Qz ?a2Qz ?a4Qz ?hsQz ?hoQz ?htQz ?offQz ?_); (case k1Qz => k_asm); (case k2Qz => k_asm); (case k3Qz => k_asm); (case k4Qz => k_asm); (case k5Qz => k_asm); (case a3Qz => exact rfl); (case hfQz => exact rfl); (case hkQz => exact rfl); (case a1Qz => exact rfl); (case a2Qz => k_extra "mine room"); (case a4Qz => k_extra "mine room"); (case hoQz => assumption); (case hsQz => k_extra "mine pick"); (case htQz => exact ⟨by decide, by decide⟩); (case offQz => k_extra "mine off")); intro d'e34 td'e34 o'e34 h'e34 tk'e34 hd0e34 hd1e34 ho'e34 F'e34 N'e34; (try dsimp only); (try k_sweep); (try k_fold))
  k_with "call ref" => (k_here; (with_reducible show wpAny _ _ (call (Value.ref 245) _) _ _ _); (k_dflt (show wpAny _ _ (call (Value.ref 245) []) _ _ _)); k_dflt ((first | with_reducible refine' types_use ?k1Qz ?k2Qz ?k3Qz ?k4Qz ?k5Qz ?a3Qz ?hfQz ?hkQz ?a1Qz ?a2Qz ?a4Qz ?hsQz ?hoQz ?offQz ?_ | refine' types_use ?k1Qz ?k2Qz ?k3Qz ?k4Qz ?k5Qz ?a3Qz ?hfQz ?hkQz ?a1Qz ?a2Qz ?a4Qz ?hsQz ?hoQz ?offQz ?_); (case k1Qz => k_asm); (case k2Qz => k_asm); (case k3Qz => k_asm); (case k4Qz => k_asm); (case k5Qz => k_asm); (case a3Qz => exact rfl); (case hfQz => first | exact rfl | assumption); (case hkQz => first | exact rfl | assumption); (case a1Qz => exact rfl); (case a2Qz => k_extra "mine room"); (case a4Qz => k_extra "mine room"); (case hoQz => assumption); (case hsQz => k_extra "mine pick"); (case offQz => k_extra "mine off")); intro l'e51 vs'e51 n'e51 fr'e51 h'e51 tk'e51 hg'e51 hoff'e51 hne'e51 hT'e51 F'e51 N'e51; (try dsimp only); (try k_sweep); (try k_fold))
  k_with "subscriptTail" => (k_here; (with_reducible show wpAny _ _ (subscriptTail _ _ (Value.ref _) (Value.int _ _)) _ _ _); (with_reducible rename TypesAre _ _ => hT9e36); k_dflt ((first | with_reducible refine' types_item ?k1Qz ?k2Qz hT9e36 ?k3Qz ?k4Qz ?_ ?k6Qz | refine' types_item ?k1Qz ?k2Qz hT9e36 ?k3Qz ?k4Qz ?_ ?k6Qz); (case k1Qz => k_asm); (case k2Qz => k_mem); (case k3Qz => first | assumption | decide); (case k4Qz => first | assumption | decide); (case k6Qz => with_unfolding_all rfl)); intro v'e36 hv'e36; (try dsimp only); (try k_fold))
  k_with "subscriptTail Name Constant ref int" => (k_here; (with_reducible show wpAny _ _ (subscriptTail _ _ (Value.ref _) (Value.int _ _)) _ _ _); (with_reducible rename TypesAre _ _ => hT9e37); k_dflt ((first | with_reducible refine' types_item ?k1Qz ?k2Qz hT9e37 ?k3Qz ?k4Qz ?_ ?k6Qz | refine' types_item ?k1Qz ?k2Qz hT9e37 ?k3Qz ?k4Qz ?_ ?k6Qz); (case k1Qz => k_asm); (case k2Qz => k_mem); (case k3Qz => first | assumption | decide); (case k4Qz => first | assumption | decide); (case k6Qz => with_unfolding_all rfl)); intro v'e37 hv'e37; (try dsimp only); (try k_fold))
  exact True.intro
--PART A26aLoc
section
local macro_rules | `(tactic| k_all) => `(tactic| assumption)
section
variable {w : World} {fr : Led} {mean : ExcName → Option Value} {mg mb : Str → Option Value} {A : Around} {env : Env} {outer : List Env} {A₀ : Around} {base h₀ : Heap} {L : Addr} {m : Str → Option Value} {s : Shared} {Q E : Value → Shared → Prop}
theorem types_use0
    (B : Below A₀ base outer h₀) (F : Fr h₀ L s.heap m) (X : (hd.heap_39 w.params).In h₀) (N : News h₀ L s.heap fr) (T : Top hd.view_39 (looseW hd.view_39 [Str.ofString "ChanError"]) mean mg mb h₀)
    (a3 : A.frames = some (env :: outer)) (hf : env.frame = some L) (hk : env.scope.kind = .function) (a1 : A.handled = none) (a2 : A.depth ≤ 600) (a4 : A.units ≤ 8000)
    (kk : ∀ l vs n fr' h' tk', Grow fr fr' → TypesAre fr' vs → Fr h₀ L h' m → News h₀ L h' ((l, listOf vs.toArray n) :: fr') → Q (.ref l) { s with heap := h', toks := tk' }) :
    wpAny (model PySem.Challenge.rw_on0017_01.row.prog w) A (call (.ref 245) []) Q E s :=
  (types_con w).use fr B F X N T hf hk a1 a2 a3 a4 (fun _ m => m) ⟨rfl, rfl⟩ (fun r news' h' tk' F' N' hp => by
    obtain ⟨l, vs, n, fr', rfl, rfl, g, hl, hT⟩ := hp
    exact kk l vs n fr' _ _ g hT F' N')
noncomputable def locPre0 (g : Led × Int × Tok) (news : Led) (vs : List Value) : Prop := news = g.1 ∧ vs = [.int g.2.1 g.2.2] ∧ 0 ≤ g.2.1 ∧ g.2.1 < 8
noncomputable def locPost0 (g : Led × Int × Tok) (news : Led) (v : Value) : Prop := Grow g.1 news ∧ PlaceIn news v (tyOf g.2.1.toNat) (some g.2.1.toNat) true 0 ∧ FlatIn news v
theorem loc_end0 {h : Heap} {D l : Addr} {lo : Obj} {t u y tt : Tok} {tv : Value} {n : Int} {fr' : Led} {tk : Nat}
    (hret : ∀ r news' h' tk', Fr h₀ L h' m → News h₀ L h' news' → locPost0 ⟨fr, n, tt⟩ news' r → Q r { s with heap := h', toks := tk' })
    (F : Fr h₀ L h m) (N : News h₀ L h ((D, tupO [.str (Str.ofString "local") t, tv, .int 0 u, .int n y]) :: (l, lo) :: fr')) (g : Grow fr fr') (ty : TyIn fr' tv (tyOf n.toNat)) (hn0 : 0 ≤ n) (hn : n < 8) :
    Q (.ref D) { s with heap := h, toks := tk } := by
  have e : n = (n.toNat : Int) := by omega
  have T : TyIn ((D, tupO [.str (Str.ofString "local") t, tv, .int 0 u, .int n y]) :: fr') tv (tyOf n.toNat) := ty.mono Sub.refl.tl.T
  refine hret _ ((D, tupO [.str (Str.ofString "local") t, tv, .int 0 u, .int n y]) :: fr') _ _ F (fun p m => N p ?_) ⟨g.tup, .loc (x := y) (u := u) (t := t) (v := tv) (by dsimp only; omega) ?_ T, .loc (.head _) T⟩
  · rcases List.mem_cons.mp m with rfl | m
    · exact .head _
    · exact .tail _ (.tail _ m)
  · show (D, tupO [.str (Str.ofString "local") t, tv, .int 0 u, .int (n.toNat : Int) y]) ∈ _
    rw [← e]; exact .head _
end
section
theorem ln41 : True := by
  k_with "call ref" => (k_here; (with_reducible show wpAny _ _ (call (Value.ref 245) _) _ _ _); (k_dflt (show wpAny _ _ (call (Value.ref 245) []) _ _ _)); k_dflt ((first | with_reducible refine' types_use0 ?k1Qz ?k2Qz ?k3Qz ?k4Qz ?k5Qz ?a3Qz ?hfQz ?hkQz ?a1Qz ?a2Qz ?a4Qz ?_ | refine' types_use0 ?k1Qz ?k2Qz ?k3Qz ?k4Qz ?k5Qz ?a3Qz ?hfQz ?hkQz ?a1Qz ?a2Qz ?a4Qz ?_); (case k1Qz => k_asm); (case k2Qz => k_asm); (case k3Qz => k_asm); (case k4Qz => k_asm); (case k5Qz => k_asm); (case a3Qz => exact rfl); (case hfQz => exact rfl); (case hkQz => exact rfl); (case a1Qz => exact rfl); (case a2Qz => k_extra "mine room"); (case a4Qz => k_extra "mine room")); intro l'e175 vs'e175 n'e175 fr'e175 h'e175 tk'e175 hg'e175 hT'e175 F'e175 N'e175; (try dsimp only); (try k_sweep); (try k_fold))
  exact True.intro
set_option maxRecDepth 100000 in
set_option maxHeartbeats 8000000 in
theorem local_con0 (w : World) : Con w 252 598 7990 locPre0 locPost0 := by
  unfold Con
  k_fill
  rintro ⟨fr, n, tt⟩ mean mg mb env outer gd A₀ base h₀ L m news s vs Q E B F X N T hf hk ⟨rfl, rfl, hn0, hn8⟩ hret
  try dsimp only at *
  k_extra "mine enter"
  k_steps
  (rename News _ _ _ _ => kN)
  (rename Fr _ _ _ _ => kF)
  (rename Grow _ _ => hg)
  (rename TyIn _ _ _ => hty)
  exact loc_end0 hret kF kN hg hty hn0 hn8
end

end
theorem ln42 : True := by
  k_with_none
  k_with "eval Name" => (k_here; (with_reducible show wpAny _ _ (eval (PySem.Expr.Name _ _) (envOf _ _ _ _ _)) _ _ _); name_kind "globalImplicit"; k_dflt ((with_reducible refine' name_K ?k0Qz ?k1Qz ?k2Qz ?k3Qz ?_ ?aQz ?bQz ?cQz); (case k0Qz => with_reducible assumption); (case k1Qz => with_reducible assumption); (case k2Qz => k_asm); (case k3Qz => k_is); (case aQz => exact rfl); (case bQz => kernel_rfl!); (case cQz => decide +kernel); k_whole))
  k_with "eval Name" => (k_here; (with_reducible show wpAny _ _ (eval (PySem.Expr.Name _ _) (envOf _ _ _ _ _)) _ _ _); name_kind "globalImplicit"; name_is_builtin; k_dflt ((with_reducible refine' name_B ?k0Qz ?k1Qz ?k2Qz ?k3Qz ?k4Qz ?k5Qz ?_ ?aQz ?bQz ?cQz); (case k0Qz => with_reducible assumption); (case k1Qz => with_reducible assumption); (case k2Qz => k_asm); (case k3Qz => k_is); (case k4Qz => boot_fast); (case k5Qz => decide +kernel); (case aQz => exact rfl); (case bQz => kernel_rfl!); (case cQz => decide +kernel); k_whole))
  k_with "eval Name" => (k_here; (with_reducible show wpAny _ _ (eval (PySem.Expr.Name _ _) (envOf _ _ _ _ _)) _ _ _); name_kind "local"; k_dflt ((with_reducible refine' ld ?k1Qz ?k2Qz ?_ ?aQz ?bQz ?cQz); (case k1Qz => with_reducible assumption); (case aQz => exact rfl); (case bQz => kernel_rfl!); (case cQz => decide +kernel); (case k2Qz => exact rfl); k_whole))
  k_with "eval Name" => (k_here; (with_reducible show wpAny _ _ (eval (PySem.Expr.Name _ _) (envOfC _ _ _ _ _)) _ _ _); k_dflt first | (name_kind "local"; (with_reducible refine' nameC_L ?FQz ?vQz ?_ ?aQz ?bQz ?cQz); (case FQz => with_reducible assumption); (case aQz => exact rfl); (case bQz => kernel_rfl!); (case cQz => decide +kernel); (case vQz => first | exact rfl | assumption); k_whole) | (name_kind "cell"; (with_reducible refine' nameC_C ?NQz ?kQz ?mQz ?dQz ?_ ?aQz ?bQz ?cQz); (case aQz => exact rfl); (case bQz => kernel_rfl!); (case cQz => decide +kernel); (case NQz => with_reducible assumption); (case kQz => exact rfl); (case mQz => k_mem); (case dQz => k_asm); k_whole) | (name_kind "globalImplicit"; name_is_builtin; (with_reducible refine' nameC_B ?FQz ?XQz ?TQz ?eQz ?vQz ?nQz ?_ ?aQz ?bQz ?cQz); (case FQz => with_reducible assumption); (case XQz => with_reducible assumption); (case TQz => k_asm); (case aQz => exact rfl); (case bQz => kernel_rfl!); (case cQz => decide +kernel); (case eQz => k_is); (case vQz => boot_fast); (case nQz => decide +kernel); k_whole) | (name_kind "globalImplicit"; (with_reducible refine' nameC_K ?FQz ?XQz ?TQz ?eQz ?_ ?aQz ?bQz ?cQz); (case FQz => with_reducible assumption); (case XQz => with_reducible assumption); (case TQz => k_asm); (case aQz => exact rfl); (case bQz => kernel_rfl!); (case cQz => decide +kernel); (case eQz => k_is); k_whole))
  k_with "eval Name" => (k_here; (with_reducible show wpAny _ _ (eval (PySem.Expr.Name _ _) (compEnvC _ _ _ _)) _ _ _); k_dflt first | (name_kind "local"; (with_reducible refine' LCgL.ld_own ?NQz ?mQz ?CQz ?xQz ?_ ?aQz ?bQz ?cQz); (case NQz => with_reducible assumption); (case mQz => k_mem); (case CQz => with_reducible assumption); (case xQz => assumption); (case aQz => exact rfl); (case bQz => kernel_rfl!); (case cQz => decide +kernel); k_whole) | (name_kind "globalImplicit"; name_is_builtin; (with_reducible refine' LCgL.ld_built ?FQz ?XQz ?TQz ?eQz ?vQz ?nQz ?_ ?gQz ?hQz ?aQz ?bQz ?cQz); (case FQz => with_reducible assumption); (case XQz => with_reducible assumption); (case TQz => with_reducible assumption); (case gQz => exact rfl); (case hQz => exact rfl); (case aQz => exact rfl); (case bQz => kernel_rfl!); (case cQz => decide +kernel); (case eQz => k_is); (case vQz => boot_fast); (case nQz => decide +kernel); k_whole) | (name_kind "globalImplicit"; (with_reducible refine' LCgL.ld_global ?FQz ?XQz ?TQz ?eQz ?_ ?gQz ?aQz ?bQz ?cQz); (case FQz => with_reducible assumption); (case XQz => with_reducible assumption); (case TQz => with_reducible assumption); (case gQz => exact rfl); (case aQz => exact rfl); (case bQz => kernel_rfl!); (case cQz => decide +kernel); (case eQz => k_is); k_whole) | (name_kind "free"; (with_reducible refine' lcf_free ?NQz ?kQz ?mQz ?dQz ?_ ?aQz ?bQz ?cQz ?eQz); (case aQz => exact rfl); (case bQz => kernel_rfl!); (case cQz => decide +kernel); (case eQz => decide +kernel); (case NQz => with_reducible assumption); (case kQz => exact rfl); (case mQz => k_mem); (case dQz => k_asm); k_whole))
  k_with "newTuple" => (k_here; k_dflt ((with_reducible refine' kup_newTuple ?FQz ?NQz ?_ ?zQz); (case FQz => with_reducible assumption); (case NQz => with_reducible assumption); (case zQz => first | exact Nat.le_of_ble_eq_true rfl | kmk_size)); intro D'e5 h'e5 F'e5 N'e5 l1e5; (try k_sweep))
  k_with "newList" => (k_here; k_dflt ((with_reducible refine' newList_K ?FQz ?NQz ?_ ?zQz); (case FQz => with_reducible assumption); (case NQz => with_reducible assumption); (case zQz => first | exact Nat.le_of_ble_eq_true rfl | size_fits)); intro D'e6 h'e6 F'e6 N'e6 l1e6; (try k_sweep))
  k_with "And" => ((with_reducible show Frag.In _ _ ∧ _); refine' And.intro ?kQz ?_; (case kQz => k_dflt (first | with_reducible assumption | (refine' Frag.In.keeps ?xQz (Fr.keep ?fQz); (case fQz => with_reducible assumption); (case xQz => with_reducible assumption)) | k_in)); (try dsimp only [List.nil_append, List.cons_append]))
  k_with "execs cons" => (k_here; (try k_gentoks); (with_reducible refine' wpAny_execs_cons ?_); (try dsimp only); (try k_fold))
  k_with "ite" => (k_closed; first | (with_reducible refine' ite_tt ?_) | (with_reducible refine' ite_ff ?_) | ((with_reducible refine' ite_neg ?hQz ?_); (case hQz => decide +kernel)) | ((with_reducible refine' ite_pos ?hQz ?_); (case hQz => decide +kernel)))
  k_with "spliced" => k_dflt ((first | (with_reducible refine' args_cons (env := envOf _ _ _ _ _) ?_ ?heQz) | (with_reducible refine' args_cons (env := envOfC _ _ _ _ _) ?_ ?heQz)); (case heQz => exact rfl))
  k_with "eval Call" => k_dflt ((first | (with_reducible refine' Call_ (env := envOf _ _ _ _ _) ?_ ?heQz) | (with_reducible refine' Call_ (env := envOfC _ _ _ _ _) ?_ ?heQz)); (case heQz => exact rfl))
  k_with "exec Assign" => k_dflt ((first | (with_reducible refine' wpAny_Assign_Name (env := envOf _ _ _ _ _) ?_ ?heQz) | (with_reducible refine' wpAny_Assign_Name (env := envOfC _ _ _ _ _) ?_ ?heQz)); (case heQz => exact rfl); (try k_fold))
  k_with "callWith ref" => (k_here; k_dflt first | ((with_reducible refine' callWith_K ?k1Qz ?k2Qz ?_ ?heQz ?hpQz); (case k1Qz => with_reducible assumption); (case k2Qz => k_is); (case heQz => exact rfl); (case hpQz => exact rfl); k_whole) | ((with_reducible refine' callWith_K0 ?k1Qz ?k2Qz ?_); (case k1Qz => (first | with_reducible assumption | (refine' Frag.In.keeps ?xQz (Fr.keep ?fQz); (case fQz => with_reducible assumption); (case xQz => with_reducible assumption)) | k_in)); (case k2Qz => k_is); k_whole))
  k_with "storeName" => (k_here; k_dflt first | ((with_reducible refine' stN ?FQz ?NQz ?_ ?aQz ?bQz); (case FQz => with_reducible assumption); (case NQz => with_reducible assumption); (case aQz => exact rfl); (case bQz => kernel_rfl!); k_whole; intro h'e14 F'e14 N'e14; (try k_sweep)) | (name_kind "local"; (with_reducible refine' storeC_L ?FQz ?NQz ?_ ?aQz ?bQz); (case FQz => with_reducible assumption); (case NQz => with_reducible assumption); (case aQz => exact rfl); (case bQz => kernel_rfl!); k_whole; intro h'e14 F'e14 N'e14; (try k_sweep)))
  k_with "mine room" => first | exact Nat.le_of_ble_eq_true rfl | ((try simp only [recursionLimit]); (try dsimp only [Around.deeper, Around.in1, Around.mark, rnd]); first | exact room_le (by with_reducible assumption) rfl | omega) | fail "mine"
  k_with "mine enter" => (refine wpAny_call ?_; k_dflt ((with_reducible refine' code_def ?k1Qz ?k2Qz ?k3Qz ?k4Qz ?k5Qz ?kAQz ?kFQz ?kKQz ?k6Qz ?k7Qz ?k8Qz ?k9Qz ?kBQz ?_ ?c2Qz ?c3Qz ?c4Qz ?c5Qz); (case kAQz => exact rfl); (case kFQz => assumption); (case kKQz => assumption); (case k1Qz => k_asm); (case k2Qz => k_asm); (case k3Qz => k_asm); (case k4Qz => k_asm); (case k5Qz => k_asm); (case k6Qz => k_is); (case k7Qz => k_is); (case k8Qz => ktr_room); (case k9Qz => exact BindsTo.of_eq rfl); (case c5Qz => decide); (case kBQz => exact locs rfl); (case c2Qz => exact rfl); (case c3Qz => exact rfl); (case c4Qz => exact rfl); k_whole; intro g'e16 L'e16 h'e16 FG'e16 F'e16 N'e16 B'e16 X'e16 T'e16; (try dsimp only); (try k_fold)))
  k_with "mine pick" => first | exact Pick.head | (refine' Pick.tail ?pkQz; (case pkQz => k_extra "mine pick")) | fail "mine"
  k_with "mine mem" => first | with_reducible assumption | exact mem_hd | (refine' mem_tl ?pmQz; (case pmQz => k_extra "mine mem")) | (refine' Sub.mem ?pgQz ?pmQz; (case pgQz => with_reducible assumption); (case pmQz => k_extra "mine mem")) | (refine' Grow.mem ?pgQz ?pmQz; (case pgQz => with_reducible assumption); (case pmQz => k_extra "mine mem")) | fail "mine"
  k_with "mine at" => first | (with_reducible exact at_hd) | ((with_reducible refine' at_tl ?pmQz); (case pmQz => k_extra "mine at")) | fail "mine"
  k_with "mine pj" => first | with_reducible assumption | exact pj_l (by with_reducible assumption) | exact pj_l (pj_r (by with_reducible assumption)) | exact pj_r (by with_reducible assumption) | exact pj_l (pj_2 (by with_reducible assumption)) | exact pj_2 (by with_reducible assumption) | exact pj_l (pj_2 (pj_r (by with_reducible assumption))) | exact pj_2 (pj_r (by with_reducible assumption)) | exact pj_l (pj_4 (by with_reducible assumption)) | exact pj_4 (by with_reducible assumption) | exact pj_l (pj_4 (pj_r (by with_reducible assumption))) | exact pj_4 (pj_r (by with_reducible assumption)) | exact pj_l (pj_4 (pj_2 (by with_reducible assumption))) | exact pj_4 (pj_2 (by with_reducible assumption)) | exact pj_l (pj_4 (pj_2 (pj_r (by with_reducible assumption)))) | exact pj_4 (pj_2 (pj_r (by with_reducible assumption))) | exact pj_l (pj_8 (by with_reducible assumption)) | exact pj_8 (by with_reducible assumption) | exact pj_l (pj_8 (pj_r (by with_reducible assumption))) | exact pj_8 (pj_r (by with_reducible assumption)) | exact pj_l (pj_8 (pj_2 (by with_reducible assumption))) | exact pj_8 (pj_2 (by with_reducible assumption)) | exact pj_l (pj_8 (pj_2 (pj_r (by with_reducible assumption)))) | exact pj_8 (pj_2 (pj_r (by with_reducible assumption))) | exact pj_l (pj_8 (pj_4 (by with_reducible assumption))) | exact pj_8 (pj_4 (by with_reducible assumption)) | exact pj_l (pj_8 (pj_4 (pj_r (by with_reducible assumption)))) | exact pj_8 (pj_4 (pj_r (by with_reducible assumption))) | exact pj_l (pj_8 (pj_4 (pj_2 (by with_reducible assumption)))) | exact pj_8 (pj_4 (pj_2 (by with_reducible assumption))) | exact pj_l (pj_8 (pj_4 (pj_2 (pj_r (by with_reducible assumption))))) | exact pj_8 (pj_4 (pj_2 (pj_r (by with_reducible assumption)))) | exact pj_l (pj_16 (by with_reducible assumption)) | exact pj_16 (by with_reducible assumption) | exact pj_l (pj_16 (pj_r (by with_reducible assumption))) | exact pj_16 (pj_r (by with_reducible assumption)) | exact pj_l (pj_16 (pj_2 (by with_reducible assumption))) | exact pj_16 (pj_2 (by with_reducible assumption)) | exact pj_l (pj_16 (pj_2 (pj_r (by with_reducible assumption)))) | exact pj_16 (pj_2 (pj_r (by with_reducible assumption))) | exact pj_l (pj_16 (pj_4 (by with_reducible assumption))) | exact pj_16 (pj_4 (by with_reducible assumption)) | exact pj_l (pj_16 (pj_4 (pj_r (by with_reducible assumption)))) | exact pj_16 (pj_4 (pj_r (by with_reducible assumption))) | exact pj_l (pj_16 (pj_4 (pj_2 (by with_reducible assumption)))) | exact pj_16 (pj_4 (pj_2 (by with_reducible assumption))) | exact pj_l (pj_16 (pj_4 (pj_2 (pj_r (by with_reducible assumption))))) | exact pj_16 (pj_4 (pj_2 (pj_r (by with_reducible assumption)))) | exact pj_l (pj_16 (pj_8 (by with_reducible assumption))) | exact pj_16 (pj_8 (by with_reducible assumption)) | exact pj_l (pj_16 (pj_8 (pj_r (by with_reducible assumption)))) | exact pj_16 (pj_8 (pj_r (by with_reducible assumption))) | exact pj_l (pj_16 (pj_8 (pj_2 (by with_reducible assumption)))) | exact pj_16 (pj_8 (pj_2 (by with_reducible assumption))) | exact pj_l (pj_16 (pj_8 (pj_2 (pj_r (by with_reducible assumption))))) | exact pj_16 (pj_8 (pj_2 (pj_r (by with_reducible assumption)))) | exact pj_l (pj_16 (pj_8 (pj_4 (by with_reducible assumption)))) | exact pj_16 (pj_8 (pj_4 (by with_reducible assumption))) | exact pj_l (pj_16 (pj_8 (pj_4 (pj_r (by with_reducible assumption))))) | exact pj_16 (pj_8 (pj_4 (pj_r (by with_reducible assumption)))) | exact pj_l (pj_16 (pj_8 (pj_4 (pj_2 (by with_reducible assumption))))) | exact pj_16 (pj_8 (pj_4 (pj_2 (by with_reducible assumption)))) | exact pj_l (pj_16 (pj_8 (pj_4 (pj_2 (pj_r (by with_reducible assumption)))))) | exact pj_16 (pj_8 (pj_4 (pj_2 (pj_r (by with_reducible assumption))))) | fail "mine"
  k_with "mine new" => first | ((with_reducible refine' ne_new ?hQz ?mQz); (case hQz => with_reducible assumption); (case mQz => k_extra "mine at")) | ((with_reducible refine' ne_new' ?hQz ?mQz); (case hQz => with_reducible assumption); (case mQz => k_extra "mine at")) | ((with_reducible refine' Nat.ne_of_lt ?hQz); (case hQz => k_extra "mine pj")) | ((with_reducible refine' Nat.ne_of_gt ?hQz); (case hQz => k_extra "mine pj")) | fail "mine"
  k_with "mine ne" => first | assumption | (refine Ne.symm ?_; assumption) | k_extra "mine new" | (refine neN ?_; (try dsimp only); first | k_extra "mine new" | omega) | fail "mine"
  k_with "mine off" => first | with_reducible assumption | exact Off.nil | (refine Off.tup ?_; k_extra "mine off") | (refine Off.ne ?_ ?_; (k_extra "mine ne"); (k_extra "mine off")) | fail "mine"
  k_with "mine sub" => first | with_reducible assumption | exact Sub.refl | (refine Sub.tl ?_; k_extra "mine sub") | (refine' Sub.gr ?pgQz ?pkQz; (case pgQz => with_reducible assumption); (case pkQz => k_extra "mine sub")) | fail "mine"
  k_with "call ref" => (k_here; (with_reducible show wpAny _ _ (call (Value.ref 220) [Value.ref _, Value.int _ _]) _ _ _); k_dflt ((with_reducible refine' take_use ?k1Qz ?k2Qz ?k3Qz ?k4Qz ?k5Qz ?a3Qz ?hfQz ?hkQz ?a1Qz ?a2Qz ?a4Qz ?hsQz ?hoQz ?htQz ?offQz ?_); (case k1Qz => k_asm); (case k2Qz => k_asm); (case k3Qz => k_asm); (case k4Qz => k_asm); (case k5Qz => k_asm); (case a3Qz => exact rfl); (case hfQz => exact rfl); (case hkQz => exact rfl); (case a1Qz => exact rfl); (case a2Qz => k_extra "mine room"); (case a4Qz => k_extra "mine room"); (case hoQz => assumption); (case hsQz => k_extra "mine pick"); (case htQz => exact ⟨by decide, by decide⟩); (case offQz => k_extra "mine off")); intro d'e34 td'e34 o'e34 h'e34 tk'e34 hd0e34 hd1e34 ho'e34 F'e34 N'e34; (try dsimp only); (try k_sweep); (try k_fold))
  exact True.intro
--PART A26bPool
section
local macro_rules | `(tactic| k_all) => `(tactic| assumption)
theorem big_nn {x : Int} {p : Prop} [Decidable p] : 0 ≤ (if -1 - x > x then -1 - x else x) * (if p then 1 else 0) := by
  split <;> split <;> omega
section
set_option maxRecDepth 100000 in
set_option maxHeartbeats 8000000 in
theorem pool_con (w : World) : ∀ (mean : ExcName → Option Value) (mg mb : Str → Option Value) (env : Env) (outer : List Env) (gd : Option (List Code)) (A₀ : Around) (base h₀ : Heap) (L : Addr) (m : Str → Option Value) (news : Led) (s : Shared) (l : Addr) (vs : List Value) (ns : List Int) (kt : Tok)
    (Q E : Value → Shared → Prop), Below A₀ base outer h₀ → Fr h₀ L s.heap m → (hd.heap_39 w.params).In h₀ → News h₀ L s.heap news → Top hd.view_39 (looseW hd.view_39 [Str.ofString "ChanError"]) mean mg mb h₀ → env.frame = some L → env.scope.kind = .function →
    h₀.IsList l vs.toArray → IntsAre vs ns → ns.length ≤ 63 → (∀ D o h' tk', SrcOk o → (∀ p ∈ news, p.1 < D) → Fr h₀ L h' m → News h₀ L h' ((D, o) :: news) → Q (.ref D) { s with heap := h', toks := tk' }) →
    wpAny (model PySem.Challenge.rw_on0017_01.row.prog w) (rnd 400 5000 gd env outer) (call (.ref 213) [.ref l, .int 0 kt]) Q E s := by
  k_fill
  rintro mean mg mb env outer gd A₀ base h₀ L m news s l vs ns kt Q E B F X N T hf hk hl hI hz hret
  k_extra "mine enter"
  (rename Fr h₀ L _ m => FG9)
  have hl' := Fr.lst FG9 hl
  k_steps
  all_goals (refine hret _ _ _ _ (.mk' ⟨_, _, _, _, _, rfl, ?_, ?_, ?_⟩) (by assumption) (by k_asm) (by k_asm))
  all_goals first | exact (fm _ (by decide)).1 | exact (fm _ (by decide)).2 | exact big_nn
end

end
--PART A26cOne
section
inductive Keep2 : Led → Addr × Obj → Addr × Obj → Prop
  | here {p q : Addr × Obj} : Keep2 [p, q] p q
  | tail {x p q : Addr × Obj} {l : Led} : Keep2 l p q → Keep2 (x :: l) p q
theorem Keep2.sub {l : Led} {p q : Addr × Obj} (h : Keep2 l p q) : Sub [p, q] l := by
  induction h with
  | here => exact Sub.refl
  | tail _ ih => exact ih.tl
theorem PlaceIn.whole {l : Led} {v : Value} {ty : Ty} {r : Option Nat} {b : Bool} {d : Nat} (h : PlaceIn l v ty r b d) (hb : b = true) : ∃ a t u x tv n, v = .ref a ∧ r = some n ∧ (a, tupO [.str (Str.ofString "local") t, tv, .int 0 u, .int ((n : Nat) : Int) x]) ∈ l ∧ TyIn l tv ty := by
  cases h with
  | loc i m T => exact ⟨_, _, _, _, _, _, rfl, rfl, m, T⟩
  | field => cases hb
  | index => cases hb
  | deref => cases hb
section
variable {w : World} {fr : Led} {mean : ExcName → Option Value} {mg mb : Str → Option Value} {A : Around} {env : Env} {outer : List Env} {A₀ : Around} {base h₀ : Heap} {L : Addr} {m : Str → Option Value} {s : Shared} {Q E : Value → Shared → Prop}
theorem local_use6 {tt : Tok}
    (B : Below A₀ base outer h₀) (F : Fr h₀ L s.heap m) (X : (hd.heap_39 w.params).In h₀) (N : News h₀ L s.heap fr) (T : Top hd.view_39 (looseW hd.view_39 [Str.ofString "ChanError"]) mean mg mb h₀)
    (a3 : A.frames = some (env :: outer)) (hf : env.frame = some L) (hk : env.scope.kind = .function) (a1 : A.handled = none) (a2 : A.depth ≤ 598) (a4 : A.units ≤ 7990)
    (kk : ∀ a b t u x y h' tk', Fr h₀ L h' m → News h₀ L h' ((a, tupO [.str (Str.ofString "local") t, .ref b, .int 0 u, .int 6 x]) :: (b, tupO [.str (Str.ofString "slice") y, .ref 237]) :: fr) → Q (.ref a) { s with heap := h', toks := tk' }) :
    wpAny (model PySem.Challenge.rw_on0017_01.row.prog w) A (call (.ref 252) [.int 6 tt]) Q E s :=
  (local_con0 w).use ⟨fr, 6, tt⟩ B F X N T hf hk a1 a2 a3 a4 (fun _ m => m) ⟨rfl, rfl, (show (0 : Int) ≤ 6 by decide), (show (6 : Int) < 8 by decide)⟩ (fun r news' h' tk' F' N' hp => by
    obtain ⟨g, hP, hF9⟩ := hp
    have hP' : PlaceIn news' r .slice (some 6) true 0 := hP
    obtain ⟨a, t, u, x, tv, n, rfl, e, m, T⟩ := hP'.whole rfl
    cases e
    cases T with
    | slice m2 =>
      rename_i b y
      refine kk a b t u x y _ _ F' fun p mm => N' p ?_
      rcases List.mem_cons.mp mm with rfl | mm
      · exact m
      · rcases List.mem_cons.mp mm with rfl | mm
        · exact m2
        · exact g.1 _ mm)
theorem local_use2' {tt : Tok}
    (B : Below A₀ base outer h₀) (F : Fr h₀ L s.heap m) (X : (hd.heap_39 w.params).In h₀) (N : News h₀ L s.heap fr) (T : Top hd.view_39 (looseW hd.view_39 [Str.ofString "ChanError"]) mean mg mb h₀)
    (a3 : A.frames = some (env :: outer)) (hf : env.frame = some L) (hk : env.scope.kind = .function) (a1 : A.handled = none) (a2 : A.depth ≤ 598) (a4 : A.units ≤ 7990)
    (kk : ∀ a v t u x h' tk', (∀ l, TyIn l v .arr) → Fr h₀ L h' m → News h₀ L h' ((a, tupO [.str (Str.ofString "local") t, v, .int 0 u, .int 2 x]) :: fr) → Q (.ref a) { s with heap := h', toks := tk' }) :
    wpAny (model PySem.Challenge.rw_on0017_01.row.prog w) A (call (.ref 252) [.int 2 tt]) Q E s :=
  (local_con0 w).use ⟨fr, 2, tt⟩ B F X N T hf hk a1 a2 a3 a4 (fun _ m => m) ⟨rfl, rfl, (show (0 : Int) ≤ 2 by decide), (show (2 : Int) < 8 by decide)⟩ (fun r news' h' tk' F' N' hp => by
    obtain ⟨g, hP, hF9⟩ := hp
    have hP' : PlaceIn news' r .arr (some 2) true 0 := hP
    obtain ⟨a, t, u, x, v, n, rfl, e, m, T⟩ := hP'.whole rfl
    cases e
    refine kk a v t u x _ _ (fun l => ?_) F' fun p mm => N' p ?_
    · cases T with
      | a230 => exact .a230
      | a234 => exact .a234
    · rcases List.mem_cons.mp mm with rfl | mm
      · exact m
      · exact g.1 _ mm)
theorem told_use {bl lt ct : Addr} {body : List Value} {nb : Nat} {lo : Obj} {lks : List (Str × Value)} {xs : List Int} {n : Nat} {caps outs : List Int}
    (B : Below A₀ base outer h₀) (F : Fr h₀ L s.heap m) (X : (hd.heap_39 w.params).In h₀) (N : News h₀ L s.heap fr) (T : Top hd.view_39 (looseW hd.view_39 [Str.ofString "ChanError"]) mean mg mb h₀)
    (a3 : A.frames = some (env :: outer)) (hf : env.frame = some L) (hk : env.scope.kind = .function) (a1 : A.handled = none) (a2 : A.depth ≤ 430) (a4 : A.units ≤ 5400)
    (hbl : (bl, listOf body.toArray nb) ∈ fr) (hlt : (lt, lo) ∈ fr) (hlo : (lt == sysModules) = false) (hld : lo.IsDictOf (PySem.strKind PySem.Challenge.rw_on0017_01.row.prog w) lks) (hL : LitsAre fr lks outs) (hC : CapIs fr ct caps) (hf1 : FndAll fr body xs n) (hr : allRefs body) (hn : n ≤ 16000) (ho : outs.length ≤ 100) (hcb : ∀ y ∈ caps, 0 ≤ y ∧ y < 8) (hob : ∀ y ∈ outs, 0 ≤ y ∧ y < 8)
    (kk : ∀ D its q ks h' tk', IntsAre its.toList ks → ks.Pairwise (· < ·) → (∀ y, y ∈ ks ↔ y ∈ caps ∨ y ∈ outs ∨ y ∈ xs) → (∀ p ∈ fr, p.1 ≠ D) → Fr h₀ L h' m → News h₀ L h' ((D, listOf its q) :: fr) → Q (.ref D) { s with heap := h', toks := tk' }) :
    wpAny (model PySem.Challenge.rw_on0017_01.row.prog w) A (call (.ref 283) [.ref bl, .ref lt, .ref ct]) Q E s := by
  obtain ⟨ys, k, hW, hk', hy⟩ := hf1
  refine (told_con w).use ⟨fr, bl, lt, ct, body, nb, lo, lks, ys, k, caps, outs⟩ B F X N T hf hk a1 a2 a3 a4 (fun _ m => m) ⟨rfl, rfl, hbl, hlt, hlo, hld, hL, hC, hW, hr, (by dsimp only; omega), ho, hcb, hob⟩ (fun r news' h' tk' F' N' hp => ?_)
  obtain ⟨D, its, q, ks, rfl, rfl, q0, q1, q2, q3⟩ := hp
  exact kk D its q ks _ _ q1 q2 (fun y => by rw [q3 y, hy y]) q0 F' N'
theorem one_int {its : Array Value} {k : Int} (h : IntsAre its.toList [k]) : ∃ t, its = #[.int k t] := by
  obtain ⟨l⟩ := its
  cases h with
  | cons a t r => cases r; exact ⟨t, rfl⟩
theorem told_one {bl lt ct a1' a2' p1 q1 i1 z p2 q2 i2 one v6 b6 v2 : Addr} {tv2 : Value} {nb : Nat} {lo : Obj} {p q : Addr × Obj} {t1 t2 t3 t4 t5 t6 t7 t8 t9 t10 t11 t12 t13 t14 t15 t16 t17 t18 t19 t20 : Tok}
    (ha : ∀ l, TyIn l tv2 .arr) (hld : lo.IsDictOf (PySem.strKind PySem.Challenge.rw_on0017_01.row.prog w) [])
    (B : Below A₀ base outer h₀) (F : Fr h₀ L s.heap m) (X : (hd.heap_39 w.params).In h₀) (N : News h₀ L s.heap fr) (T : Top hd.view_39 (looseW hd.view_39 [Str.ofString "ChanError"]) mean mg mb h₀)
    (a3 : A.frames = some (env :: outer)) (hf : env.frame = some L) (hk : env.scope.kind = .function) (a1 : A.handled = none) (a2 : A.depth ≤ 430) (a4 : A.units ≤ 5400)
    (hbl : (bl, listOf [Value.ref a1', Value.ref a2'].toArray nb) ∈ fr) (hlt : (lt, lo) ∈ fr) (hlo : (lt == sysModules) = false) (hct : (ct, tupO []) ∈ fr)
    (s1 : (a1', tupO [.str (Str.ofString "set") t1, .int 0 t2, .ref p1, .ref q1]) ∈ fr) (m1 : (p1, tupO [.ref i1]) ∈ fr) (m2 : (q1, tupO [.ref z]) ∈ fr) (m3 : (z, tupO [.str (Str.ofString "zero") t3, .ref 237, .int 0 t4]) ∈ fr)
    (m4 : (i1, tupO [.str (Str.ofString "index") t5, .ref 237, .int 0 t6, .ref v6, .ref one]) ∈ fr) (m5 : (v6, tupO [.str (Str.ofString "local") t7, .ref b6, .int 0 t8, .int 6 t9]) ∈ fr) (m6 : (b6, tupO [.str (Str.ofString "slice") t10, .ref 237]) ∈ fr)
    (s2 : (a2', tupO [.str (Str.ofString "set") t11, .int 0 t12, .ref p2, .ref q2]) ∈ fr) (n1 : (p2, tupO [.ref i2]) ∈ fr) (n2 : (q2, tupO [.ref one]) ∈ fr)
    (n4 : (i2, tupO [.str (Str.ofString "index") t13, .ref 228, .int 0 t14, .ref v2, .ref one]) ∈ fr) (n5 : (v2, tupO [.str (Str.ofString "local") t15, tv2, .int 0 t16, .int 2 t17]) ∈ fr)
    (m7 : (one, tupO [.str (Str.ofString "const") t18, .ref 228, .int 0 t19, .int 1 t20]) ∈ fr) (k2 : Keep2 fr p q)
    (kk : ∀ D t c h' tk', @Ne Nat p.1 D → @Ne Nat q.1 D → Fr h₀ L h' m → News h₀ L h' [(D, listOf #[.int 2 t] c), p, q] → Q (.ref D) { s with heap := h', toks := tk' }) :
    wpAny (model PySem.Challenge.rw_on0017_01.row.prog w) A (call (.ref 283) [.ref bl, .ref lt, .ref ct]) Q E s := by
  have P6 : PlaceIn fr (.ref v6) .slice (some 6) true 0 := .loc (n := 6) (by decide) m5 (.slice m6)
  have P2 : PlaceIn fr (.ref v2) .arr (some 2) true 0 := .loc (n := 2) (by decide) n5 (ha fr)
  have f0 := const_fnd m7
  have fz : Fnd fr (.ref z) [] 60 := (Fnd.plain m3 (by decide +kernel) (FndAll.cons ((TyIn.pair (l := fr)).fnd) (FndAll.skip rfl FndAll.nil))).le (by decide)
  have e1 : Fnd fr (.ref a1') [] 120 := st_set0 s1 m1 (.inl rfl) m2 (PlaceIn.index m4 .pair P6 (.const m7)) (by decide) fz (.inr rfl)
  have e2 : Fnd fr (.ref a2') ([2] ++ []) 120 := st_set1 (j := 2) s2 n1 (.inl rfl) n2 (PlaceIn.index n4 .i228 P2 (.const m7)) (by decide) (f0.le (by decide)) rfl
  have hfa := FndAll.cons e1 (FndAll.one e2)
  refine told_use B F X N T a3 hf hk a1 a2 a4 hbl hlt hlo hld .nil (.none hct) hfa (fun y hy => ?_) (by decide) (by decide) (fun y hy => nomatch hy) (fun y hy => nomatch hy) fun D its c ks h' tk' hI hp hm hne F' N' => ?_
  · rcases List.mem_cons.mp hy with rfl | hy
    · exact ⟨_, rfl⟩
    · rw [List.mem_singleton.mp hy]; exact ⟨_, rfl⟩
  · have e : ks = [2] := strict_ext hp (List.pairwise_singleton ..) fun y => by rw [hm y]; simp
    subst e
    obtain ⟨t, rfl⟩ := one_int hI
    refine kk D t c _ _ (hne _ (k2.sub _ (.head _))) (hne _ (k2.sub _ (.tail _ (.head _)))) F' fun x mm => N' x ?_
    rcases List.mem_cons.mp mm with rfl | mm
    · exact .head _
    · exact .tail _ (k2.sub _ mm)
theorem pool_use {l : Addr} {vs : List Value} {ns : List Int} {kt : Tok} {news : Led}
    (hI : IntsAre vs ns) (B : Below A₀ base outer h₀) (F : Fr h₀ L s.heap m) (X : (hd.heap_39 w.params).In h₀) (N : News h₀ L s.heap news) (T : Top hd.view_39 (looseW hd.view_39 [Str.ofString "ChanError"]) mean mg mb h₀)
    (a3 : A.frames = some (env :: outer)) (hf : env.frame = some L) (hk : env.scope.kind = .function) (a1 : A.handled = none) (a2 : A.depth ≤ 400) (a4 : A.units ≤ 5000)
    (hl : h₀.IsList l vs.toArray) (hz : ns.length ≤ 63)
    (kk : ∀ D o h' tk', SrcOk o → Fr h₀ L h' m → News h₀ L h' ((D, o) :: news) → (∀ p ∈ news, p.1 < D) → Q (.ref D) { s with heap := h', toks := tk' }) :
    wpAny (model PySem.Challenge.rw_on0017_01.row.prog w) A (call (.ref 213) [.ref l, .int 0 kt]) Q E s :=
  wpAny_less (pool_con w mean mg mb env outer A.guards A₀ base h₀ L m news s l vs ns kt Q E B F X N T hf hk hl hI hz fun D o h' tk' q1 q2 q3 q4 => kk D o h' tk' q1 q3 q4 q2) a1 a2 a3 rfl a4
end

end
--PART A26dDict
section
section
variable {prog : Program} {w : World} {A : Around} {E : Value → Shared → Prop} {s : Shared}
theorem keys_miss : typeLookup (.type "list") (Str.ofString "keys") = pure none := by rw [typeLookup_type, builtinLookup_eq_fast]; kernel_rfl
theorem list_no_keys {a : Addr} {o : Obj} {xs : Array Value} {k : Nat} {Q : Option Value → Shared → Prop}
    (hx : s.heap.get? a = some o) (hc : o.cls = .type "list") (hdat : o.data = .seq xs k) (hd : o.dict = none) (hA : A.handled = none)
    (h : ∀ h' tk, (∀ b x, s.heap.get? b = some x → h'.get? b = some x) → Q none { s with heap := h', toks := tk }) :
    wpAny (model prog w) A (getAttr? (.ref a) (Str.ofString "keys")) Q E s := by
  have hmiss := keys_miss
  have hname : (["__module__", "__name__", "__qualname__", "__doc__", "__annotations__"] : List Str).contains (Str.ofString "keys") = false := by decide +kernel
  have hsz : (Str.ofString "keys").length + 100 ≤ sizeLine := by decide +kernel
  generalize hnm : (Str.ofString "keys") = name at hmiss hname hsz ⊢
  obtain ⟨c, dct, dat, sl⟩ := o
  simp only at hc hdat hd
  subst hc hdat hd
  obtain ⟨hp, g, d, tk, os⟩ := s
  have hT : ∀ tk', (⟨hp, g, d, tk', os⟩ : Shared).TypeIs (.ref a) "list" := fun _ => ⟨_, hx, rfl⟩
  have f1 := sub_AttributeError
  have f3 := PySem.F.slot_list_getattribute.lookup
  have f4 := PySem.F.slot_list_getattribute.bind (.ref a)
  have f5 := am_list_getattr_none
  unfold getAttr? getAttrBy? getAttrBy
  repeat (any_goals (first | assumption | exact hT _ | ((with_reducible show wpAny _ _ (call (Value.builtin "list.__getattribute__") _ _) _ _ _); refine call_meets PySem.F.slot_list_getattribute (hT _) am_entry_list_getattribute (PySem.F.args_list_getattribute_2 _ _) (meets_getattribute_miss_list a xs k sl name _ hmiss hname hsz) ⟨hx, hA, fun h' tk' e hx' => ?_⟩) | wp_step))
  obtain ⟨t', u', he⟩ := hx'.there
  show wpAny _ _ (getattributeRaised _ _ _ _ _ _ _) _ _ _
  unfold getattributeRaised
  repeat (any_goals (first | assumption | wp_step))
  exact h _ _ hx'.keeps
theorem entry_dict_loop : entryFor table "dict.update.loop" = some Builtin.«dict.update.loop» := entryFor_of_tree (by kernel_rfl)
theorem plain_dict_loop : plainId "dict.update.loop" = true := by decide +kernel
theorem pair_items {T : Addr} {o : Obj} {vs : List Value} {Q : List Value → Shared → Prop} (hx : s.heap.get? T = some o) (ho : o = tupO vs) (h : Q vs s) : wpAny (model prog w) A (Builtin.Dict.pairItems (.ref T)) Q E s := by
  subst ho
  have hT : s.TypeIs (.ref T) "tuple" := ⟨_, hx, rfl⟩
  unfold Builtin.Dict.pairItems
  refine wpAny_bind (wpAny_typeOf hT ?_)
  repeat (any_goals (first | assumption | wp_step))
theorem dict_loop (hh : A.handled = none) {d I l : Addr} {items : Array Value} {ks : List Int} (hlI : l ≠ I) (hdl : d ≠ l) (hdI : d ≠ I) (hn : items.size = ks.length) (hz : ks.length ≤ 100000) {h₁ : Heap}
    (hp : ∀ (j : Nat) v, items[j]? = some v → ∃ T k t, v = .ref T ∧ ks[j]? = some k ∧ T ≠ d ∧ T ≠ I ∧ h₁.get? T = some (tupO [.int k t, .bool true])) {R : Result → Shared → Prop}
    (fin : ∀ h tk kvs, (∀ b o, b ≠ d → b ≠ I → h₁.get? b = some o → h.get? b = some o) → h.DictOf (PySem.intKind prog w) d kvs → (∀ y, y ∈ kvs.map (·.1) ↔ y ∈ ks) → R (.ok (.ret .none)) { s with heap := h, toks := tk }) :
    ∀ (k i : Nat) h tk (x : Int) t kvs, items.size - i = k → i ≤ items.size → h.IsListIter I l i ∧ h.IsList l items → (∀ b o, b ≠ d → b ≠ I → h₁.get? b = some o → h.get? b = some o) → h.DictOf (PySem.intKind prog w) d kvs → (∀ y, y ∈ kvs.map (·.1) ↔ y ∈ ks.take i) → kvs.length ≤ i →
      codeAny (model prog w) A (.builtin "dict.update.loop" ⟨[.ref d, .ref I, .int x t, .none], []⟩) R { s with heap := h, toks := tk } := by
  have hh1 : A.in1.handled = none := by simpa using hh
  have W := Walks.list (prog := prog) (w := w) hh1 I l hlI items
  intro k
  induction k with
  | zero =>
    intro i h tk x t kvs hk hi st kp hD hy hl
    obtain rfl : i = items.size := by omega
    refine codeAny_builtin entry_dict_loop ?_
    rw [Around.under_plainId plain_dict_loop _]
    show wpAny _ A.in1 (pyNext (.ref I) >>= _) _ _ _
    refine wpAny_bind (W.done _ _ _ st fun h' tk' hk' => ?_)
    show wpAny _ A.in1 (Builtin.Dict.addKeywords d [] >>= _) _ _ _
    refine wpAny_bind (wpAny_pure (wpAny_pure ?_))
    refine fin h' tk' kvs (fun b o h1 h2 e => hk' b o (by simpa using h2) (kp b o h1 h2 e)) ?_ fun y => by rw [hy y, hn, List.take_length]
    obtain ⟨o, es, ep, ho, rest⟩ := hD
    exact ⟨o, es, ep, hk' d _ (by simpa using hdI) ho, rest⟩
  | succ k ih =>
    intro i h tk x t kvs hk hi st kp hD hy hl
    have hlt : i < items.size := by omega
    refine codeAny_builtin entry_dict_loop ?_
    rw [Around.under_plainId plain_dict_loop _]
    show wpAny _ A.in1 (pyNext (.ref I) >>= _) _ _ _
    refine wpAny_bind (W.item i _ _ _ hlt st fun v h' tk' hP st' hk' => ?_)
    obtain ⟨T, kk, u, rfl, hks, hTd, hTI, hT⟩ := hp i v hP
    have hT' : h'.get? T = some (tupO [.int kk u, .bool true]) := hk' T _ (by simpa using hTI) (kp T _ hTd hTI hT)
    have hD' : h'.DictOf (PySem.intKind prog w) d kvs := by
      obtain ⟨o, es, ep, ho, rest⟩ := hD
      exact ⟨o, es, ep, hk' d _ (by simpa using hdI) ho, rest⟩
    show wpAny _ A.in1 (holding [Value.ref T] _ >>= _) _ _ _
    refine wpAny_bind (wpAny_holding (wpAny_bind (wpAny_tryCatch (pair_items hT' rfl ?_))))
    dsimp only
    refine wpAny_holding (wpAny_dictSet_pairs (knd := PySem.intKind prog w) (k := kk) (PySem.intKind_is _ _ _ _) hD' (fun h'' hD'' hs => ?_) (by rw [sizeLine_eq]; omega))
    refine wpAny_pure ⟨plainId_quiet plain_dict_loop _, ?_⟩
    refine ih (i + 1) h'' _ _ _ (stored kvs kk (.bool true)) (by omega) hlt ?_ (fun b o h1 h2 e => hs.extBut b o h1 (hk' b o (by simpa using h2) (kp b o h1 h2 e))) hD'' (fun y => ?_) ?_
    · exact ⟨st'.1.at fun o e => hs.extBut I o (Ne.symm hdI) e, st'.2.at fun o e => hs.extBut l o (Ne.symm hdl) e⟩
    · rw [stored_keys, hy y, List.take_add_one, hks, List.mem_append]
      simp
    · have := stored_len (kvs := kvs) (k := kk) (v := Value.bool true)
      omega
theorem dict_of_pairs {h₀ : Heap} {L a : Addr} {m : Str → Option Value} {news : Led} {ys : List Value} {q : Nat} {ks : List Int} {Q : Value → Shared → Prop} (hh : A.handled = none) (F : Fr h₀ L s.heap m) (N : News h₀ L s.heap news) (hm : (a, listOf ys.toArray q) ∈ news) (hbig : sysModules < h₀.objs.size)
    (hn : ys.length = ks.length) (hz : ks.length ≤ 100000) (hp : ∀ (j : Nat) v, ys[j]? = some v → ∃ T k t, v = .ref T ∧ ks[j]? = some k ∧ (T, tupO [.int k t, .bool true]) ∈ news)
    (k : ∀ d o kvs h' tk', (d == sysModules) = false → o.IsDictOf (PySem.intKind prog w) kvs → (∀ y, y ∈ kvs.map (·.1) ↔ y ∈ ks) → (∀ p ∈ news, p.1 < d) → Fr h₀ L h' m → News h₀ L h' ((d, o) :: news) → Q (.ref d) { s with heap := h', toks := tk' }) :
    wpAny (model prog w) A (call (.type "dict") [.ref a]) Q E s := by
  have hlt : ∀ p ∈ news, p.1 < s.heap.objs.size := fun p hp => Heap.lt_size (N p hp).1
  refine callType_codes (Q₁ := fun obj s₁ => obj = .ref s.heap.objs.size ∧ s₁ = { s with heap := s.heap.push { cls := .type "dict", data := .dict #[] } }) PySem.F.kt_called_dict (PySem.F.kt_typeCall_dict_1 _) PySem.F.entry_dict_init (kt_code_dict_new _ ⟨rfl, rfl⟩) ?_
  rintro obj s₁ ⟨rfl, rfl⟩
  have hnew : (s.heap.push { cls := .type "dict", data := .dict #[] }).DictOf (PySem.intKind prog w) s.heap.objs.size [] := Heap.DictOf.new s.heap
  have N1 := News.push F N { cls := .type "dict", data := .dict #[] }
  have F1 : Fr h₀ L (s.heap.push { cls := .type "dict", data := .dict #[] }) m := F.push _
  have ha := (N1 _ (.tail _ hm)).1
  refine ⟨hnew.typeIs, PySem.F.args_dict_init_2 _ _, ?_⟩
  unfold Builtin.«dict.__init__»
  refine wpAny_bind ?_
  unfold Builtin.Dict.selfAndRest
  refine wpAny_bind (wpAny_notOrdered_dict hnew.typeIs ?_)
  show wpAny _ _ (pure (s.heap.objs.size, [Value.ref a])) _ _ _
  refine wpAny_pure ?_
  show wpAny _ _ (Builtin.Dict.updateFrom "dict.__init__" s.heap.objs.size (.ref a) [] .none) _ _ _
  unfold Builtin.Dict.updateFrom
  refine wpAny_bind (wpAny_typeOf (T := "list") ⟨_, ha, rfl⟩ ?_)
  rw [if_pos (by decide)]
  refine wpAny_bind (list_no_keys ha rfl rfl rfl (by simpa using hh) fun h₂ tk₂ hk₂ => ?_)
  rw [if_pos (show (Option.isNone (none : Option Value)) = true from rfl)]
  refine wpAny_bind (wpAny_rule ?_)
  have N2 : News h₀ L h₂ ((s.heap.objs.size, { cls := Value.type "dict", data := Data.dict #[] }) :: news) := fun p mm => ⟨hk₂ _ _ (N1 p mm).1, (N1 p mm).2⟩
  have F2 : Fr h₀ L h₂ m := F1.keeps hk₂
  have hl2 : h₂.IsList a ys.toArray := ⟨_, (N2 _ (.tail _ hm)).1, rfl, q, rfl⟩
  refine wpAny_bind (wpAny_pyIter_list hl2 ?_)
  have hd2 : s.heap.objs.size < h₂.objs.size := Heap.lt_size (N2 _ (.head _)).1
  have hlt2 : ∀ p ∈ news, p.1 < h₂.objs.size := fun p mm => Heap.lt_size (N2 p (.tail _ mm)).1
  have hz0 : ys.toArray.size = ks.length := by rw [List.size_toArray, hn]
  refine wpAny_pure ⟨plainId_quiet plain_dict_loop _, ?_⟩
  generalize hI : h₂.objs.size = I at hd2 hlt2
  generalize hd : s.heap.objs.size = d at N1 N2 hd2 hlt hnew
  have hnI : h₀.get? I = none := hI ▸ next_is_new F2
  have hLI : L ≠ I := by
    have := F2.ns.lt
    rw [hI] at this
    exact Nat.ne_of_lt this
  have old : ∀ b o, h₂.get? b = some o → (h₂.push { cls := .type "list_iterator", data := .fields #[.ref a, .int 0 0] }).get? b = some o := fun b o e => Heap.get?_push_of_some _ e
  refine dict_loop (s := { s with heap := h₂.push { cls := .type "list_iterator", data := .fields #[.ref a, .int 0 0] }, toks := tk₂ }) (by simpa using hh) (d := d) (I := I) (l := a) (items := ys.toArray) (ks := ks) (Nat.ne_of_lt (hlt2 _ hm)) (Ne.symm (Nat.ne_of_lt (hlt _ hm))) (Nat.ne_of_lt hd2) hz0 hz (h₁ := h₂.push { cls := .type "list_iterator", data := .fields #[.ref a, .int 0 0] }) (fun j v hv => ?_) (fun h' tk' kvs hk' hD hy => ?_) _ 0 _ _ 0 _ [] rfl (Nat.zero_le _) ⟨⟨_, hI ▸ Heap.get?_push_size _ rfl, rfl, rfl⟩, hl2.at fun o e => old _ _ e⟩ (fun _ _ _ _ e => e) ?_ (fun y => by simp) (Nat.le_refl _)
  · obtain ⟨T, kk, t, rfl, e, mm⟩ := hp j v (by simpa using hv)
    exact ⟨T, kk, t, rfl, e, Nat.ne_of_lt (hlt _ mm), Nat.ne_of_lt (hlt2 _ mm), old _ _ (N2 _ (.tail _ mm)).1⟩
  · obtain ⟨o', ho', hd'⟩ := Heap.dictOf_iff.mp hD
    have zd := N2 _ (.head _)
    refine ⟨rfl, k d o' kvs h' tk' (hd ▸ F.notModules hbig) hd' hy hlt ⟨F2.ns.at' fun o e => hk' _ o (Ne.symm zd.2.1) hLI (old _ _ e), fun b o e => hk' b o (fun q => by rw [q, zd.2.2] at e; cases e) (fun q => by rw [q, hnI] at e; cases e) (old _ _ (F2.keep b o e)), F2.above⟩ fun p mm => ?_⟩
    rcases List.mem_cons.mp mm with rfl | mm
    · exact ⟨ho', zd.2⟩
    · have z := N2 p (.tail _ mm)
      exact ⟨hk' _ _ (Nat.ne_of_lt (hlt p mm)) (Nat.ne_of_lt (hlt2 p mm)) (old _ _ z.1), z.2⟩
  · obtain ⟨o, es, ep, ho, rest⟩ := hnew
    have e := (N1 _ (.head _)).1
    dsimp only at e
    rw [e] at ho
    cases ho
    exact ⟨_, es, ep, old _ _ (N2 _ (.head _)).1, rest⟩
end

end
--PART A26eComp
section
section
open PyProof.Rows.LCg
variable {prog : Program} {w : World} {A : Around} {E : Value → Shared → Prop} {s : Shared} {h₀ : Heap} {L : Addr} {m : Str → Option Value} {env : Env}
/-- the body's comprehension, in the law's own frame: p and q are its cells -/
theorem body_comp {elt iter : Expr} {x y : Str} {px py : Pos} {scope : Scope} {cl : List (Str × Addr)} {pos : Pos} {Q : Value → Shared → Prop} {s₁ : Shared} {src due r : Addr} {o : Obj} {n0 : Nat} {cap sz : Nat} {news : Led} {b : Int} {t u v : Tok} {p q : Addr × Obj} {x1 x2 : Option Value}
    (ho : SrcOk o) (hr : IsRange s₁.heap r 0 b 1 t u v) (hb1 : 1 ≤ b) (hb : b ≤ 8) (hh : A.handled = none) (hcell : ∀ y ∈ scope.names, y.2 ≠ .cell) (hkind : scope.kind = .function) (hx : scope.names.lookup x = some .local)
    (hLe : env.locals = L) (hy : env.kindOf y = some .local) (hp : (env.scope.kind == .class || (env.scope.kind == .module && env.locals != env.globals)) = false)
    (F : Fr h₀ L s₁.heap m) (N : News h₀ L s₁.heap news) (ms : (src, o) ∈ news) (md : (due, listOf #[] n0) ∈ news) (k2 : Keep2 news p q) (hd1 : p.2.data = .cell x1) (hd2 : q.2.data = .cell x2) (hne : @Ne Nat due src)
    (p1 : @Ne Nat p.1 src) (p2 : @Ne Nat p.1 due) (q1 : @Ne Nat q.1 src) (q2 : @Ne Nat q.1 due) (hl : b.toNat * cap ≤ 4000)
    (turn : StTurn prog w A h₀ L m env elt x scope cl s₁ src due 4000 cap sz [p, q])
    (fin : ∀ D ys o its n ext fr h tk, SrcOk o → (∀ x, Off x fr) → (∀ e ∈ fr, e.1 ≠ p.1 ∧ e.1 ≠ q.1) → IntsAre its.toList ext → ext.length ≤ 64 → FndAll fr ys ext (b.toNat * sz) → allRefs ys → @Ne Nat D src → @Ne Nat D due → @Ne Nat p.1 D → @Ne Nat q.1 D → (∀ e ∈ fr, e.1 ≠ D) →
      Fr h₀ L h (fun z => if z = y then some (.ref D) else m z) → News h₀ L h ((D, lst ys) :: (src, o) :: (due, listOf its n) :: p :: q :: fr) → Q .none { s₁ with heap := h, toks := tk }) (hc8 : cap ≤ 8) :
    CSrc prog w A elt iter [] x px scope cl pos env (some (assign (.Name y py) env)) E Q (.ref r) s₁ := by
  have N1 : News h₀ L s₁.heap ((src, o) :: (due, listOf #[] n0) :: [p, q]) := fun e me => N e (by
    rcases List.mem_cons.mp me with rfl | me
    · exact ms
    · rcases List.mem_cons.mp me with rfl | me
      · exact md
      · exact k2.sub _ me)
  have off1 : Off src [p, q] := fun e me => .inr (by
    rcases List.mem_cons.mp me with rfl | me
    · exact p1
    · rw [List.mem_singleton.mp me]; exact q1)
  have off2 : Off due [p, q] := fun e me => .inr (by
    rcases List.mem_cons.mp me with rfl | me
    · exact p2
    · rw [List.mem_singleton.mp me]; exact q2)
  refine st_compA (o := o) (its := #[]) (n := n0) (l := []) (l₀ := 4000) hr hb1 hb hh hcell hkind hx hLe hy hp F N1 Pick.head Pick.head ho hne off1 off2 .nil (by simpa using hl) turn ?_
  intro D ys o' its n ext fr' h tk ho' g o1 o2 hi he hf hy' hrf n1 n2 nD F' N'
  have zp := N' p (.tail _ (.tail _ (.tail _ (g.1 _ (.head _)))))
  have zq := N' q (.tail _ (.tail _ (.tail _ (g.1 _ (.tail _ (.head _))))))
  have tne : ∀ e ∈ fr', TupO e.2 → e.1 ≠ p.1 ∧ e.1 ≠ q.1 := fun e me hT => by
    have z := N' e (.tail _ (.tail _ (.tail _ me)))
    constructor
    · intro h9
      have z1 := z.1
      rw [h9, zp.1] at z1
      have z2 := hT.2
      rw [← Option.some.inj z1, hd1] at z2
      cases z2
    · intro h9
      have z1 := z.1
      rw [h9, zq.1] at z1
      have z2 := hT.2
      rw [← Option.some.inj z1, hd2] at z2
      cases z2
  have st : SubT fr' (fr'.filter fun e => !(e.1 == p.1) && !(e.1 == q.1)) := fun e me hT => List.mem_filter.mpr ⟨me, by
    obtain ⟨a, b⟩ := tne e me hT
    simp [a, b]⟩
  have hk : ∀ e ∈ fr'.filter fun e => !(e.1 == p.1) && !(e.1 == q.1), e ∈ fr' ∧ e.1 ≠ p.1 ∧ e.1 ≠ q.1 := fun e me => by
    obtain ⟨a, b⟩ := List.mem_filter.mp me
    exact ⟨a, by simpa using b⟩
  refine fin D ys o' its n ext (fr'.filter fun e => !(e.1 == p.1) && !(e.1 == q.1)) h tk ho' (fun x e me => .inl ?_) (fun e me => (hk e me).2) (by simpa using hi) ?_ (hf.mono st) hrf n1 n2 (nD _ (g.1 _ (.head _))) (nD _ (g.1 _ (.tail _ (.head _)))) (fun e me => nD e (hk e me).1) F' fun e me => N' e ?_
  · obtain ⟨a, b, c⟩ := hk e me
    rcases g.2 e a with h9 | h9
    · rcases List.mem_cons.mp h9 with rfl | h9
      · exact absurd rfl b
      · exact absurd (by rw [List.mem_singleton.mp h9]) c
    · exact h9
  · have : b.toNat ≤ 8 := by omega
    exact Nat.le_trans he (Nat.le_trans (Nat.mul_le_mul this hc8) (by decide))
  · rcases List.mem_cons.mp me with rfl | me
    · exact .head _
    · refine .tail _ ?_
      rcases List.mem_cons.mp me with rfl | me
      · exact .head _
      · refine .tail _ ?_
        rcases List.mem_cons.mp me with rfl | me
        · exact .head _
        · refine .tail _ ?_
          rcases List.mem_cons.mp me with rfl | me
          · exact g.1 _ (.head _)
          · rcases List.mem_cons.mp me with rfl | me
            · exact g.1 _ (.tail _ (.head _))
            · exact (hk e me).1
theorem ints_at : ∀ {vs : List Value} {ks : List Int}, IntsAre vs ks → ∀ {i : Nat} {v : Value}, vs[i]? = some v → ∃ k t, v = .int k t ∧ ks[i]? = some k
  | _, _, .nil, i, v, h => by simp at h
  | _, _, .cons a t r, 0, v, h => ⟨a, t, (Option.some.inj h).symm, rfl⟩
  | _, _, .cons a t r, i + 1, v, h => by
    have q := ints_at r (i := i) (by simpa using h)
    simpa using q
/-- pairs (number, True) -/
noncomputable def PrEnd (h₀ : Heap) (L : Addr) (m : Str → Option Value) (fr : Led) (k : Int) (s₁ : Shared) (y : Value) (s₂ : Shared) : Prop := ∃ h' tk T t, s₂ = { s₁ with heap := h', toks := tk } ∧ y = .ref T ∧ Fr h₀ L h' m ∧ News h₀ L h' ((T, tupO [.int k t, .bool true]) :: fr)
theorem PrEnd.intro {h : Heap} {fr : Led} {k : Int} {tk : Nat} {T : Addr} {t : Tok} (F : Fr h₀ L h m) (N : News h₀ L h ((T, tupO [.int k t, .bool true]) :: fr)) : PrEnd h₀ L m fr k s (.ref T) { s with heap := h, toks := tk } := ⟨h, tk, T, t, rfl, rfl, F, N⟩
theorem pairs_comp {elt iter : Expr} {x : Str} {px : Pos} {scope : Scope} {cl : List (Str × Addr)} {pos : Pos} {Q : Value → Shared → Prop} {s₁ : Shared} {a : Addr} {its : Array Value} {q : Nat} {ks : List Int} {news : Led}
    (hI : IntsAre its.toList ks) (hh : A.handled = none) (hcell : ∀ y ∈ scope.names, y.2 ≠ .cell) (hkind : scope.kind = .function) (hx : scope.names.lookup x = some .local) (F : Fr h₀ L s₁.heap m) (N : News h₀ L s₁.heap news) (hm : (a, listOf its q) ∈ news) (hz : ks.length ≤ 1000)
    (turn : ∀ (k : Int) t C oC m₂ fr h tk (E' : Value → Shared → Prop), (C, oC) ∈ fr → NsObj oC m₂ → m₂ x = some (.int k t) → Fr h₀ L h m → News h₀ L h fr → wpAny (model prog w) A (eval elt (compEnvC scope cl C env)) (PrEnd h₀ L m fr k { s₁ with heap := h, toks := tk }) E' { s₁ with heap := h, toks := tk })
    (fin : ∀ D ys fr h tk, Sub news fr → ys.length = ks.length → (∀ (j : Nat) v, ys[j]? = some v → ∃ T k t, v = .ref T ∧ ks[j]? = some k ∧ (T, tupO [.int k t, .bool true]) ∈ (D, lst ys) :: fr) → Fr h₀ L h m → News h₀ L h ((D, lst ys) :: fr) → Q (.ref D) { s₁ with heap := h, toks := tk }) :
    CSrc prog w A elt iter [] x px scope cl pos env none E Q (.ref a) s₁ := by
  have hlen : its.size = ks.length := by rw [← hI.length, Array.length_toList]
  refine CSrc.go (σ := Unit) (fun _ => []) [] (fun i _ ys fr => ys.length = i ∧ ∀ (j : Nat) v, ys[j]? = some v → ∃ T k t, v = .ref T ∧ ks[j]? = some k ∧ (T, tupO [.int k t, .bool true]) ∈ fr) () news (fun _ => rfl) (fun i c ys fr fr' s' z => ⟨z.1, fun j v hv => ?_⟩) (ItSrc.list hh (N _ hm).1 hm) (fun i c ys fr hi z => by rw [z.1, sizeLine_eq]; omega) hcell hkind hx F N (fun _ ha => nomatch ha) ⟨rfl, fun j v hv => by simp at hv⟩ ?_ ?_
  · obtain ⟨T, k, t, e1, e2, e3⟩ := z.2 j v hv
    exact ⟨T, k, t, e1, e2, s'.tup e3⟩
  · rintro i v _ ys fr I oI C oC D m₂ h tk E' hi hv sb ⟨hl, hys⟩ hC hx' hoff F' N'
    have hv' : its.toList[i]? = some v := by rw [Array.getElem?_toList]; exact hv
    obtain ⟨k, t, rfl, hk⟩ := ints_at hI hv'
    refine wpAny_tests_nil ?_
    simp only [if_true]
    refine wpAny_mono (turn k t C oC m₂ ((I, oI) :: (C, oC) :: (D, lst ys) :: fr) h tk E' (.tail _ (.head _)) hC hx' F' N') (fun y s'' z => ?_) fun _ _ e => e
    obtain ⟨h', tk', T, t', rfl, rfl, F2, N2⟩ := z
    refine ⟨h', tk', (), _, rfl, F2, N2, Grow.refl.tup, (fun _ ha => nomatch ha), by rw [List.length_append, hl]; rfl, fun j v hw => ?_⟩
    by_cases hj : j < ys.length
    · rw [List.getElem?_append_left hj] at hw
      obtain ⟨T', k', t'', e1, e2, e3⟩ := hys j v hw
      exact ⟨T', k', t'', e1, e2, .tail _ (.tail _ (.tail _ (.tail _ e3)))⟩
    · rw [List.getElem?_append_right (Nat.not_lt.mp hj)] at hw
      have hj0 : j - ys.length = 0 := by
        cases h9 : j - ys.length with
        | zero => rfl
        | succ n => rw [h9] at hw; simp at hw
      rw [hj0] at hw
      have ej : j = i := by omega
      subst ej
      exact ⟨T, k, t', (Option.some.inj hw).symm, hk, .head _⟩
  · rintro D h tk _ ys fr' g off nD ⟨hl, hys⟩ F' N'
    refine fin D ys fr' h tk g.1 (by rw [hl, hlen]) (fun j v hv => ?_) F' N'
    obtain ⟨T, k, t, e1, e2, e3⟩ := hys j v hv
    exact ⟨T, k, t, e1, e2, .tail _ e3⟩
end
section
open PyProof.Rows.LCg
variable {prog : Program} {w : World} {A : Around} {E : Value → Shared → Prop} {s : Shared} {h₀ : Heap} {L : Addr} {m : Str → Option Value} {env : Env}
theorem cp_ar {it D C : Nat} (hD : D = it + 1) (hC : C = D + 1) : (it ≠ C ∧ it ≠ D) ∧ (D ≠ it ∧ D ≠ C) ∧ C ≠ it ∧ it ≤ D ∧ it ≤ C := by omega
theorem cp_lt {a it D C : Nat} (h : a < it) (hD : D = it + 1) (hC : C = D + 1) : a ≠ it ∧ a ≠ D ∧ a ≠ C := by omega
theorem capt_go {iter : Expr} {a b : Str} {pe pa pb tp : Pos} {kk : Nat} {scope : Scope} {cl : List (Str × Addr)} {pos : Pos} {l : Addr} {ws : List Value} {cs : List Int} {news : Led} {Q : Value → Shared → Prop}
    (hws : ∀ (i : Nat) v, ws[i]? = some v → ∃ T k o t u, v = .ref T ∧ cs[i]? = some k ∧ (T, tupO [.int k t, .int o u]) ∈ news) (hn : ws.length = cs.length) (hz : cs.length ≤ 100)
    (hh : A.handled = none) (hcell : ∀ y ∈ scope.names, y.2 ≠ .cell) (hkind : scope.kind = .function) (hxa : scope.names.lookup a = some .local) (hxb : scope.names.lookup b = some .local) (hab : ¬ a = b) (hdb : (a == ("__debug__" : Str)) = false)
    (F : Fr h₀ L s.heap m) (N : News h₀ L s.heap news) (hm : (l, tupO ws) ∈ news)
    (fin : ∀ D ys h tk, IntsAre ys cs → (∀ p ∈ news, p.1 < D) → Fr h₀ L h m → News h₀ L h ((D, lst ys) :: news) → Q (.ref D) { s with heap := h, toks := tk }) :
    EnSrc prog w A (.Name a pe) iter (.Tuple [.Name a pa, .Name b pb] kk tp) scope cl pos env none E Q (.ref l) s := by
  have hlist : s.heap.IsTuple l ws.toArray := ⟨_, (N _ hm).1, rfl, _, rfl⟩
  have hlt : l < s.heap.objs.size := Heap.lt_size (N _ hm).1
  refine wpAny_pyIter_tuple hlist ?_
  generalize hit : s.heap.objs.size = it at hlt
  generalize hg : s.heap.push { cls := .type "tuple_iterator", data := .fields #[.ref l, .int 0 0] } = g
  have hne1 : l ≠ it := Nat.ne_of_lt hlt
  have W := Walks.tuple (prog := prog) (w := w) hh it l hne1 ws.toArray
  have hn0 : ws.toArray.size = ws.length := List.size_toArray
  rw [hn0] at W
  have hk : ∀ b o, s.heap.get? b = some o → g.get? b = some o := fun b o e => hg ▸ Heap.get?_push_of_some _ e
  have hgz : g.objs.size = it + 1 := by rw [← hg, Heap.size_push, hit]
  have F1 : Fr h₀ L g m := F.keeps hk
  have N1 : News h₀ L g news := fun p hp => ⟨hk _ _ (N p hp).1, (N p hp).2⟩
  have hbel : ∀ p ∈ news, p.1 < it := fun p hp => hit ▸ Heap.lt_size (N p hp).1
  have hLlt : L < it := hit ▸ F.ns.lt
  have h0n : ∀ c, it ≤ c → h₀.get? c = none := fun c hc => by
    cases e : h₀.get? c with
    | none => rfl
    | some o => exact absurd (Heap.lt_size (F.keep c o e)) (by rw [hit]; exact Nat.not_lt.mpr hc)
  have st0 := (show _ ∧ _ from ⟨⟨_, hg ▸ hit ▸ Heap.get?_push_size _ rfl, rfl, rfl⟩, hlist.at fun o e => hk _ _ e⟩ : (fun i (h : Heap) => (∃ o, h.get? it = some o ∧ o.cls = .type "tuple_iterator" ∧ o.data = .fields #[.ref l, .int (i : Nat) 0]) ∧ h.IsTuple l ws.toArray) 0 g)
  refine wpAny_newObj_type (wpAny_newFunctionEnv hcell (by intro y hy; simp at hy) (fun h₁ hns₁ hsb₁ => ?_) hkind)
  dsimp only at hns₁ hsb₁ ⊢
  generalize hH2 : g.push { cls := .type "list", dict := none, data := .seq ([] : List Value).toArray } = H2 at hns₁ hsb₁ ⊢
  generalize hDe : g.objs.size = D at hH2 ⊢
  generalize hCe : H2.objs.size = C at hns₁ hsb₁ ⊢
  have hDz : D = it + 1 := by rw [← hDe, hgz]
  have hC : C = D + 1 := by rw [← hCe, ← hH2, Heap.size_push, hDe]
  have old : ∀ b o, g.get? b = some o → h₁.get? b = some o := fun b o e => hsb₁.extBut b o (Nat.ne_of_lt (by rw [hC]; exact Nat.lt_succ_of_lt (hDe ▸ Heap.lt_size e))) (Heap.get?_push_of_some _ (hH2 ▸ Heap.get?_push_of_some _ e))
  have hacc : h₁.get? D = some (lst []) := hsb₁.extBut _ _ (by rw [hC]; exact Nat.ne_of_lt (Nat.lt_succ_self _)) (Heap.get?_push_of_some _ (hH2 ▸ hDe ▸ Heap.get?_push_size _ rfl))
  have ar := cp_ar hDz hC
  have hD₀ : h₀.get? D = none := h0n _ ar.2.2.2.1
  have hC₀ : h₀.get? C = none := h0n _ ar.2.2.2.2
  have fpC : ∀ c ∈ [it, l], c ≠ C ∧ c ≠ D := fun c hc => by
    simp only [List.mem_cons, List.not_mem_nil, or_false] at hc
    rcases hc with rfl | rfl
    · exact ar.1
    · exact ⟨(cp_lt hlt hDz hC).2.2, (cp_lt hlt hDz hC).2.1⟩
  have nb : ∀ p ∈ news, p.1 ≠ it ∧ p.1 ≠ D ∧ p.1 ≠ C := fun p hp => by
    exact cp_lt (hbel p hp) hDz hC
  have hLn : L ≠ it ∧ L ≠ D ∧ L ≠ C := by
    exact cp_lt hLlt hDz hC
  have hDn : D ≠ it ∧ D ≠ C := by
    exact ar.2.1
  have hCn : C ≠ it := ar.2.2.1
  have st1 := W.frame _ _ _ st0 (fun b _ o e => old b o e)
  have loop : ∀ s₃ : Shared, s₃ = { s with heap := h₁, toks := s.toks + ([] : List (Str × Value)).length } →
      codeAny (model prog w) A (.compLoop (.ListComp (.Name a pe) [⟨.Tuple [.Name a pa, .Name b pb] kk tp, iter, [], 0⟩] scope pos) 0 (.ref it) (.ref D) (compEnvC scope cl C env)) (compPost (model prog w) A E none Q (.ref D) C) s₃ := by
    rintro s₃ rfl
    refine kcp_loop
      (fun k s' => ∃ h' tk i ys m', s' = { s with heap := h', toks := tk } ∧ i ≤ ws.length ∧ k = ws.length + 1 - i ∧ ys.length = i ∧ IntsAre ys (cs.take i) ∧ ((∃ o, h'.get? it = some o ∧ o.cls = .type "tuple_iterator" ∧ o.data = .fields #[.ref l, .int (i : Nat) 0]) ∧ h'.IsTuple l ws.toArray) ∧ Fr h₀ L h' m ∧ h'.Ns C m' ∧
        News h₀ L h' ((D, lst ys) :: news)) ?_ (ws.length + 1)
      ⟨h₁, _, 0, [], _, rfl, Nat.zero_le _, rfl, rfl, by simpa using IntsAre.nil, st1, F1.keeps old, hns₁, fun p hp => ?_⟩
    · rintro k s' ⟨h', tk, i, ys, m', rfl, hi, rfl, hyl, hyI, st, F', hn', N'⟩
      by_cases hlt : i < ws.length
      · refine W.item i _ _ _ hlt st fun v h₂ tk₂ hP st₂ hk₂ => ?_
        refine letGo_tupleiter st₂.1 ?_
        obtain ⟨T, k, o, t, u, rfl, hcs, hTm⟩ := hws i v (by simpa using hP)
        have nT := nb _ hTm
        have up₂ : ∀ c o, c ≠ it → h'.get? c = some o → h₂.get? c = some o := fun c o c1 e => hk₂ c o (by simp [c1]) e
        have hT₂ : h₂.IsTuple T #[.int k t, .int o u] := ⟨_, up₂ _ _ nT.1 (N' _ (.tail _ hTm)).1, rfl, _, rfl⟩
        refine kcp_assign (env := compEnvC scope cl C env) hh hT₂ (lookup_relabel_local hxa) (lookup_relabel_local hxb) (by simp [compEnvC, relabel, hkind]) (hn'.at' fun o e => up₂ _ o hCn e) fun h₄ tk₄ hn₄ hs₄ => ?_
        have up : ∀ c o, c ≠ it → c ≠ C → h'.get? c = some o → h₄.get? c = some o := fun c o c1 c3 e => hs₄ c o c3 (up₂ c o c1 e)
        have st₄ := W.frame _ _ _ st₂ (fun b hb o e => hs₄ b o (fpC b hb).1 e)
        refine ldVarK (v := Value.int k t) (scope := scope) (cl := cl) (C := C) (env := env) hn₄ (by simp [hab]) ?_ (by simp [compEnvC, relabel, hkind]) (lookup_relabel_local hxa) hdb
        have F₄ : Fr h₀ L h₄ m := ⟨F'.ns.at' fun o e => up _ o hLn.1 hLn.2.2 e, fun c o e => up c o (fun q => by rw [q, h0n _ (Nat.le_refl _)] at e; cases e) (fun q => by rw [q, hC₀] at e; cases e) (F'.keep c o e), F'.above⟩
        have zD := up _ _ hDn.1 hDn.2 (N' (D, lst ys) (.head _)).1
        refine append_at (hsz := by show ys.toArray.size ≤ sizeLine; rw [List.size_toArray, hyl, sizeLine_eq]; omega) zD fun h₆ hs₆ hD₆ => ?_
        refine ⟨ws.length + 1 - (i + 1), by omega, h₆, tk₄, i + 1, ys ++ [.int k t], _, rfl, hlt, rfl, by rw [List.length_append, List.length_singleton, hyl], ?_, W.frame _ _ _ st₄ (fun b hb o e => hs₆.extBut b o (fpC b hb).2 e), F₄.change hs₆ (Ne.symm hLn.2.1) hD₀,
          hn₄.sameBut hs₆ (Ne.symm hDn.2), fun q hq => ?_⟩
        · rw [List.take_add_one, hcs]
          exact ints_snoc hyI
        rcases List.mem_cons.mp hq with rfl | hq
        · exact ⟨hD₆.trans (congrArg some (lst_snoc ys _)), Ne.symm hLn.2.1, hD₀⟩
        · have z := N' q (.tail _ hq)
          have y := nb q hq
          exact ⟨hs₆.extBut _ _ y.2.1 (up _ _ y.1 y.2.2 z.1), z.2⟩
      · obtain rfl : i = ws.length := Nat.le_antisymm hi (Nat.not_lt.mp hlt)
        refine W.done _ _ _ st fun h₂ tk₂ hk₂ => ?_
        have up : ∀ c o, c ≠ it → h'.get? c = some o → h₂.get? c = some o := fun c o c1 e => hk₂ c o (by simp [c1]) e
        have F₂ : Fr h₀ L h₂ m := ⟨F'.ns.at' fun o e => up _ o hLn.1 e, fun c o e => up c o (fun q => by rw [q, h0n _ (Nat.le_refl _)] at e; cases e) (F'.keep c o e), F'.above⟩
        rw [hn, List.take_length] at hyI
        refine ⟨m', hn'.at' fun o e => up _ o hCn e, fun h'' hs'' => fin D ys h'' tk₂ hyI (fun p hp => by have := hbel p hp; simp only [Addr] at *; omega) (F₂.change hs'' (Ne.symm hLn.2.2) hC₀) fun p hp => ?_⟩
        have z := N' p hp
        rcases List.mem_cons.mp hp with rfl | hp
        · exact ⟨hs''.extBut _ _ hDn.2 (up _ _ hDn.1 z.1), z.2⟩
        · have y := nb p hp
          exact ⟨hs''.extBut _ _ y.2.2 (up _ _ y.1 z.1), z.2⟩
    · rcases List.mem_cons.mp hp with rfl | hp
      · exact ⟨hacc, Ne.symm hLn.2.1, hD₀⟩
      · exact ⟨old _ _ (N1 p hp).1, (N1 p hp).2⟩
  exact codeAny_compStart_list (loop _ rfl) (W.self 0 _ _ _ st1 (loop _ rfl))
end
theorem st_con0 (w : World) : Con w 278 540 7000 (stPre 0 2) (stPost 2 120) := st_walk w 0 2 120 0 0 540 7000 (by decide) (by decide) (by decide) (by decide) (fun h => absurd h (by decide)) (by decide) (fun h => absurd h (by decide)) (fun h => absurd h (by decide))
theorem st_con1 (w : World) : Con w 278 535 6950 (stPre 1 4) (stPost 4 280) := st_walk w 1 4 280 2 120 535 6950 (by decide) (by decide) (by decide) (by decide) (fun _ => by decide) (by decide) (fun _ => by decide) (fun _ => st_con0 w)
theorem st_con2 (w : World) : Con w 278 530 6900 (stPre 2 8) (stPost 8 600) := st_walk w 2 8 600 4 280 530 6900 (by decide) (by decide) (by decide) (by decide) (fun _ => by decide) (by decide) (fun _ => by decide) (fun _ => st_con1 w)

end
--PART A26fLoop
section
section
variable {prog : Program} {w : World} {A : Around} {E : Value → Shared → Prop} {s : Shared} {h₀ : Heap} {L : Addr} {m : Str → Option Value} {news : Led}
theorem mul01 {l : Addr} {v : Value} {x : Int} {u : Tok} {k : Nat} {Q : Value → Shared → Prop} (F : Fr h₀ L s.heap m) (N : News h₀ L s.heap news) (hl : (l, listOf [v].toArray k) ∈ news) (hx : x = 0 ∨ x = 1)
    (h : ∀ D h' ws, (ws = [v] ∨ ws = []) → Fr h₀ L h' m → News h₀ L h' ((D, listOf ws.toArray 0) :: news) → (∀ p ∈ news, p.1 < D) → Q (.ref D) { s with heap := h' }) : wpAny (model prog w) A (binaryOp .Mult (.ref l) (.int x u)) Q E s := by
  rcases hx with rfl | rfl
  · exact KMa.mul F N (N.isList hl) (by decide) (by decide) (by simp) (ws := []) (by simp) fun D h' F' N' lt => h D h' [] (.inr rfl) F' N' lt
  · exact KMa.mul F N (N.isList hl) (by decide) (by decide) (by simp) (ws := [v]) (by simp) fun D h' F' N' lt => h D h' [v] (.inl rfl) F' N' lt
theorem tuple_ws {D : Addr} {v : Value} {ws : List Value} {n : Nat} {Q : Value → Shared → Prop} (hw : ws = [v] ∨ ws = []) (F : Fr h₀ L s.heap m) (N : News h₀ L s.heap news) (hm : (D, listOf ws.toArray n) ∈ news)
    (h : ∀ T h', Fr h₀ L h' m → News h₀ L h' ((T, tupO ws) :: news) → (∀ p ∈ news, p.1 < T) → Q (.ref T) { s with heap := h' }) : wpAny (model prog w) A (call (.type "tuple") [.ref D]) Q E s :=
  kde_tupleOf F N (N.isList hm) (by rcases hw with rfl | rfl <;> simp) rfl h
theorem item8 {value slice : Expr} {l : Addr} {vs : List Value} {n : Nat} {k : Int} {u : Tok} {Q : Value → Shared → Prop} (h8 : vs.length = 8) (N : News h₀ L s.heap news) (hl : (l, listOf vs.toArray n) ∈ news)
    (h0 : 0 ≤ k) (hk : k < 8) (h : ∀ v, Q v s) (hs : subscripted slice false (.ref l) (.int k u) = operate [.ref l, .int k u] (getItem (.ref l) (.int k u))) :
    wpAny (model prog w) A (subscriptTail value slice (.ref l) (.int k u)) Q E s := by
  obtain ⟨v, e⟩ : ∃ v, vs[k.toNat]? = some v := ⟨_, List.getElem?_eq_getElem (by omega)⟩
  exact tail_any (N.isList hl).typeIs slot_list_getitem.lookup (wpAny_getItem_list (N.isList hl) h0 (by omega) (by simpa using e) (h v)) hs
theorem list_drop1 {M : Model} {vs : List Value} {Q : Value → Shared → Prop} (F : Fr h₀ L s.heap m) (N : News h₀ L s.heap news) (hz : vs.length ≤ sizeLine) (h : ∀ D h', Fr h₀ L h' m → News h₀ L h' news → Q (.ref D) { s with heap := h' }) : wpAny M A (newList vs) Q E s :=
  newList_K F N (fun D h' F' N' _ => h D h' F' fun p mm => N' p (.tail _ mm)) hz
theorem LitsAre.snoc {l : Led} {k : Str} {t d c p : Addr} {es : List DictEntry} {n : Nat} {a b : Tok} {o : Int} {vf vg : Value} (m1 : (t, instObj 90 d) ∈ l) (m2 : (d, dictOf es n) ∈ l) (m3 : FnOk es vf (.ref c) vg) (m4 : (c, tupO [.ref p]) ∈ l) (m5 : (p, tupO [.int 0 a, .int o b]) ∈ l) :
    ∀ {r : List (Str × Value)} {os : List Int}, LitsAre l r os → LitsAre l (r ++ [(k, .ref t)]) (os ++ [o])
  | _, _, .nil => .cons m1 m2 m3.2.1 m4 m5 .nil
  | _, _, .cons h1 h2 h3 h4 h5 r => .cons h1 h2 h3 h4 h5 (LitsAre.snoc m1 m2 m3 m4 m5 r)
theorem lit_set {nd : Addr} {od : Obj} {kvs : List (Str × Value)} {k : Str} {t : Tok} {v : Value} {fr : Led} {Q : Unit → Shared → Prop}
    (hd : od.IsDictOf (PySem.strKind PySem.Challenge.rw_on0017_01.row.prog w) kvs) (hl : kvs.length ≤ 1000) (hf : kvs.any (fun kv => decide (kv.1 = k)) = false) (F : Fr h₀ L s.heap m) (N : News h₀ L s.heap news) (hs : Pick (nd, od) news fr) (hoff : Off nd fr)
    (h : ∀ h' od', od'.IsDictOf (PySem.strKind PySem.Challenge.rw_on0017_01.row.prog w) (kvs ++ [(k, v)]) → Fr h₀ L h' m → News h₀ L h' ((nd, od') :: fr) → Q () { s with heap := h', toks := s.toks + 1 }) : wpAny (model PySem.Challenge.rw_on0017_01.row.prog w) A (setItem (.ref nd) (.str k t) v) Q E s :=
  named_set hd hl F N hs hoff fun h' od' hd' F' N' => by
    have e : stored kvs k v = kvs ++ [(k, v)] := by unfold stored; rw [if_neg (by rw [hf]; decide)]
    rw [e] at hd'
    exact h h' od' hd' F' N'
noncomputable def lpTmp : List Str := [Str.ofString "turn", Str.ofString "outer"]
noncomputable def LpEnd (w : World) (h₀ : Heap) (L : Addr) (m : Str → Option Value) (src due lt : Addr) (p q : Addr × Obj) (l : List Int) (fr : Led) (s : Shared) (f : Flow) (s₂ : Shared) : Prop :=
  f = .next ∧ ∃ h' tk' o its n outs lo lks fr', ∃ u : Str → Option Value, s₂ = { s with heap := h', toks := tk' } ∧ SrcOk o ∧ IntsAre its.toList (l ++ outs) ∧ outs.length ≤ 2 ∧ (∀ y ∈ outs, 0 ≤ y ∧ y < 8) ∧ lo.IsDictOf (PySem.strKind PySem.Challenge.rw_on0017_01.row.prog w) lks ∧ LitsAre fr' lks outs ∧ Sub fr fr' ∧ (∀ e ∈ fr', @Ne Nat e.1 q.1) ∧
    Fr h₀ L h' (fun z => if lpTmp.contains z then u z else m z) ∧ News h₀ L h' ((lt, lo) :: (src, o) :: (due, listOf its n) :: p :: q :: fr')
theorem lp_cut {M : Model} {t : Sem Flow} {Q : Flow → Shared → Prop} {src due lt c1 c2 : Addr} {o lo o1 o2 : Obj} {its : Array Value} {n : Nat} {l : List Int} {r1 r2 r3 r4 fr : Led}
    (_hi : IntsAre its.toList l) (_ho : SrcOk o) (_hd : lo.IsDictOf (PySem.strKind PySem.Challenge.rw_on0017_01.row.prog w) []) (F : Fr h₀ L s.heap m) (_N : News h₀ L s.heap news) (_h1 : Pick (lt, lo) news r1) (_h2 : Pick (src, o) r1 r2) (_h3 : Pick (due, listOf its n) r2 r3)
    (_d1 : o1.data = .cell (some (.ref src))) (_d2 : o2.data = .cell (some (.ref due))) (_h4 : Pick (c1, o1) r3 r4) (_h5 : Pick (c2, o2) r4 fr)
    (ga : wpAny M A t (LpEnd w h₀ L m src due lt (c1, o1) (c2, o2) l fr s) E s)
    (gb : ∀ h' tk' o its n outs lo lks fr' (u : Str → Option Value), SrcOk o → IntsAre its.toList (l ++ outs) → outs.length ≤ 2 → (∀ y ∈ outs, 0 ≤ y ∧ y < 8) → lo.IsDictOf (PySem.strKind PySem.Challenge.rw_on0017_01.row.prog w) lks → LitsAre fr' lks outs → Sub fr fr' → (∀ e ∈ fr', @Ne Nat e.1 c2) →
      Fr h₀ L h' (fun z => if lpTmp.contains z then u z else m z) → News h₀ L h' ((lt, lo) :: (src, o) :: (due, listOf its n) :: (c1, o1) :: (c2, o2) :: fr') → Q .next { s with heap := h', toks := tk' }) : wpAny M A t Q E s :=
  wpAny_mono ga (fun f s' hx => by obtain ⟨e1, h', tk', o, its, n, outs, lo, lks, fr', u, e2, q1, q2, q3, q4, q5, q6, q7, q8, q9, q10⟩ := hx; rw [e1, e2]; exact gb h' tk' o its n outs lo lks fr' u q1 q2 q3 q4 q5 q6 q7 q8 q9 q10) fun _ _ e => e
theorem lp_end {src due lt : Addr} {p q : Addr × Obj} {o lo : Obj} {its : Array Value} {n : Nat} {l l' outs : List Int} {lks : List (Str × Value)} {r1 r2 r3 r4 fr fr' : Led} {h : Heap} {tk : Nat} {m' : Str → Option Value}
    (hi : IntsAre its.toList l') (ho : SrcOk o) (hd : lo.IsDictOf (PySem.strKind PySem.Challenge.rw_on0017_01.row.prog w) lks) (F : Fr h₀ L h m') (N : News h₀ L h news) (h1 : Pick (lt, lo) news r1) (h2 : Pick (src, o) r1 r2) (h3 : Pick (due, listOf its n) r2 r3) (h4 : Pick p r3 r4) (h5 : Pick q r4 fr')
    (hL : LitsAre fr' lks outs) (he : l' = l ++ outs) (hol : outs.length ≤ 2) (hob : ∀ y ∈ outs, 0 ≤ y ∧ y < 8) (sb : Sub fr fr') (hne : ∀ e ∈ fr', @Ne Nat e.1 q.1) (hm : ∀ z, lpTmp.contains z = false → m' z = m z) :
    LpEnd w h₀ L m src due lt p q l fr s .next { s with heap := h, toks := tk } := by
  subst he
  refine ⟨rfl, h, tk, o, its, n, outs, lo, lks, fr', m', rfl, ho, hi, hol, hob, hd, hL, sb, hne, ?_, fun e me => N e (h1.sub _ ?_)⟩
  · have e : (fun z => if lpTmp.contains z then m' z else m z) = m' := by
      funext z
      cases h9 : lpTmp.contains z with
      | true => simp
      | false => simp [hm z h9]
    rw [e]; exact F
  · rcases List.mem_cons.mp me with rfl | me
    · exact .head _
    · refine .tail _ (h2.sub _ ?_)
      rcases List.mem_cons.mp me with rfl | me
      · exact .head _
      · refine .tail _ (h3.sub _ ?_)
        rcases List.mem_cons.mp me with rfl | me
        · exact .head _
        · refine .tail _ (h4.sub _ ?_)
          rcases List.mem_cons.mp me with rfl | me
          · exact .head _
          · exact .tail _ (h5.sub _ me)
theorem un_end {I : Addr} {it : Obj} {rest : (Str → Option Value) → Led → Prop} {s₁ : Shared} {h' : Heap} {tk : Nat} {m' : Str → Option Value} {all news' : Led} (F : Fr h₀ L h' m') (N : News h₀ L h' all) (hs : Pick (I, it) all news') (off : ∀ e ∈ news', @Ne Nat e.1 I) (r : rest m' news') :
    UnrEnd h₀ L s₁ I it rest { s₁ with heap := h', toks := tk } := UnrEnd.intro F N news' hs.sub off r
theorem allne_cons {c a : Addr} {o : Obj} {l : Led} (h : @Ne Nat a c) (k : ∀ e ∈ l, @Ne Nat e.1 c) : ∀ e ∈ (a, o) :: l, @Ne Nat e.1 c := fun e me => by
  rcases List.mem_cons.mp me with rfl | me
  · exact h
  · exact k e me
noncomputable def CapOk (T : Addr) (ws : List Value) (cs : List Int) : Prop := (ws = [.ref T] ∧ cs = [7]) ∨ (ws = [] ∧ cs = [])
theorem capt_use {iter : Expr} {env : Env} {a b : Str} {pe pa pb tp : Pos} {kk : Nat} {scope : Scope} {cl : List (Str × Addr)} {pos : Pos} {l T : Addr} {ws : List Value} {t u : Tok} {Q : Value → Shared → Prop}
    (hw : ws = [.ref T] ∨ ws = []) (hT : (T, tupO [.int 7 t, .int 3 u]) ∈ news)
    (hh : A.handled = none) (hcell : ∀ y ∈ scope.names, y.2 ≠ .cell) (hkind : scope.kind = .function) (hxa : scope.names.lookup a = some .local) (hxb : scope.names.lookup b = some .local) (hab : ¬ a = b) (hdb : (a == ("__debug__" : Str)) = false)
    (F : Fr h₀ L s.heap m) (N : News h₀ L s.heap news) (hm : (l, tupO ws) ∈ news)
    (fin : ∀ D ys cs h tk, CapOk T ws cs → IntsAre ys cs → (∀ p ∈ news, p.1 < D) → Fr h₀ L h m → News h₀ L h ((D, listOf ys.toArray ys.length) :: news) → Q (.ref D) { s with heap := h, toks := tk }) :
    EnSrc prog w A (.Name a pe) iter (.Tuple [.Name a pa, .Name b pb] kk tp) scope cl pos env none E Q (.ref l) s := by
  rcases hw with rfl | rfl
  · exact capt_go (cs := [7]) (fun i v hv => by
      cases i with
      | zero => exact ⟨T, 7, 3, t, u, (Option.some.inj hv).symm, rfl, hT⟩
      | succ i => simp at hv) rfl (by decide) hh hcell hkind hxa hxb hab hdb F N hm fun D ys h tk q1 q2 q3 q4 => fin D ys [7] h tk (.inl ⟨rfl, rfl⟩) q1 q2 q3 q4
  · exact capt_go (cs := []) (fun i v hv => by simp at hv) rfl (by decide) hh hcell hkind hxa hxb hab hdb F N hm fun D ys h tk q1 q2 q3 q4 => fin D ys [] h tk (.inr ⟨rfl, rfl⟩) q1 q2 q3 q4
theorem CapOk.is {T c : Addr} {ws : List Value} {cs : List Int} {t u : Tok} {l : Led} (h : CapOk T ws cs) (hT : (T, tupO [.int 7 t, .int 3 u]) ∈ l) (hm : (c, tupO ws) ∈ l) : CapIs l c cs := by
  rcases h with ⟨rfl, rfl⟩ | ⟨rfl, rfl⟩
  · exact .one hm hT
  · exact .none hm
theorem CapOk.lt8 {T : Addr} {ws : List Value} {cs : List Int} (h : CapOk T ws cs) : (∀ y ∈ cs, 0 ≤ y ∧ y < 8) ∧ cs.length ≤ 1 := by
  rcases h with ⟨_, rfl⟩ | ⟨_, rfl⟩
  · exact ⟨(fun y hy => by rw [List.mem_singleton.mp hy]; exact ⟨by decide, by decide⟩), by decide⟩
  · exact ⟨(fun y hy => nomatch hy), by decide⟩
theorem add_use {a b : Addr} {its : Array Value} {n : Nat} {ys : List Value} {q : Nat} {ns ms : List Int} {Q : Value → Shared → Prop} (hi : IntsAre its.toList ns) (hj : IntsAre ys ms) (F : Fr h₀ L s.heap m) (N : News h₀ L s.heap news) (ha : (a, listOf its n) ∈ news) (hb : (b, listOf ys.toArray q) ∈ news) (hz : ns.length + ms.length ≤ 1000)
    (h : ∀ D us h', IntsAre us (ns ++ ms) → Fr h₀ L h' m → News h₀ L h' ((D, listOf (List.toArray us) 0) :: news) → (∀ p ∈ news, p.1 < D) → Q (.ref D) { s with heap := h' }) : wpAny (model prog w) A (binaryOp .Add (.ref a) (.ref b)) Q E s := by
  have ha' : s.heap.IsList a its.toList.toArray := by rw [Array.toArray_toList]; exact N.isList ha
  exact kmk_add_ints F N ha' (N.isList hb) hi hj (fun D us h' F' N' lt i => h D us h' i F' N' lt) (by rw [sizeLine_eq]; omega)
theorem dues_lt8 {fr : Led} {ys : List Value} {ext outs cs : List Int} {k : Nat} (hf : FndAll fr ys ext k) (ho : ∀ y ∈ outs, 0 ≤ y ∧ y < 8) (hc : ∀ y ∈ cs, 0 ≤ y ∧ y < 8) : ∀ y ∈ (ext ++ outs) ++ cs, 0 ≤ y ∧ y < 8 := by
  obtain ⟨zs, n, hW, _, hy⟩ := hf
  intro y hy'
  rcases List.mem_append.mp hy' with h | h
  · rcases List.mem_append.mp h with h | h
    · exact hW.lt8 y ((hy y).mpr h)
    · exact ho y h
  · exact hc y h
theorem same_ints' {k1 k2 cs outs ext : List Int} {dk : List Int} (p1 : k1.Pairwise (· < ·)) (p2 : k2.Pairwise (· < ·)) (h1 : ∀ y, y ∈ k1 ↔ y ∈ cs ∨ y ∈ outs ∨ y ∈ ext) (h2 : ∀ y, y ∈ k2 ↔ y ∈ dk) (h3 : ∀ y, y ∈ dk ↔ y ∈ (ext ++ outs) ++ cs) : k1 = k2 :=
  strict_ext p1 p2 fun y => by
    rw [h1 y, h2 y, h3 y, List.mem_append, List.mem_append]
    constructor
    · rintro (h | h | h)
      · exact .inr h
      · exact .inl (.inr h)
      · exact .inl (.inl h)
    · rintro ((h | h) | h)
      · exact .inr (.inr h)
      · exact .inr (.inl h)
      · exact .inl h
theorem eq_true {a b : Addr} {i1 i2 : Array Value} {n1 n2 : Nat} {k1 k2 : List Int} {Q : Value → Shared → Prop} (N : News h₀ L s.heap news) (ha : (a, listOf i1 n1) ∈ news) (hb : (b, listOf i2 n2) ∈ news) (h1 : IntsAre i1.toList k1) (h2 : IntsAre i2.toList k2) (e : k1 = k2) (hu : A.units + 64 < cLine) (h : Q (.bool true) s) :
    wpAny (model prog w) A (compareOp .Eq (.ref a) (.ref b)) Q E s := by
  subst e
  have ha' : s.heap.IsList a i1.toList.toArray := by rw [Array.toArray_toList]; exact N.isList ha
  have hb' : s.heap.IsList b i2.toList.toArray := by rw [Array.toArray_toList]; exact N.isList hb
  exact eq_intsK ha' h1 hb' h2 hu (by simpa using h)
end

end
--PART A26Law
section
local macro_rules | `(tactic| k_all) => `(tactic| assumption)
theorem fr_let {h₀ h : Heap} {L : Addr} {m : Str → Option Value} {P : Prop} (F : Fr h₀ L h m) (k : ∀ m0, m0 = m → Fr h₀ L h m0 → P) : P := k m rfl F
inductive LoopMark : Prop | mk
theorem outs_nil : ∀ y ∈ ([] : List Int), 0 ≤ y ∧ y < 8 := fun _ hy => nomatch hy
theorem outs_snoc {os : List Int} {o : Int} (h0 : 0 ≤ o) (h1 : o < 8) (h : ∀ y ∈ os, 0 ≤ y ∧ y < 8) : ∀ y ∈ os ++ [o], 0 ≤ y ∧ y < 8 := fun y hy => by
  rcases List.mem_append.mp hy with m | m
  · exact h y m
  · rw [List.mem_singleton.mp m]; exact ⟨h0, h1⟩
theorem three_of {d : Int} (h0 : 0 ≤ d) (h : d < 3) : d = 0 ∨ d = 1 ∨ d = 2 := by omega
section
variable {M : Model} {A : Around} {E : Value → Shared → Prop} {s : Shared} {name : Str} {scope : Scope} {L a : Addr} {cd : Value} {h₀ : Heap} {m : Str → Option Value} {news : Led} {x : Str} {v : Value} {Q : Unit → Shared → Prop} {g : Obj → Led} {c : Addr} {o : Obj} {v₀ : Option Value}
theorem storeE_C (F : Fr h₀ L s.heap m) (N : News h₀ L s.heap news) (hc : (cellsFrom (L + 1) scope.names []).lookup x = some c) (U : UpdF c o news g) (hd : o.data = .cell v₀)
    (h : ∀ h' o', Fr h₀ L h' m → News h₀ L h' (g o') → o'.data = .cell (some v) → Q () { s with heap := h' })
    (hk : scope.kind = .function) (hl : (envOfC name scope L a cd).kindOf x = some .cell) : wpAny M A (storeName (envOfC name scope L a cd) x v) Q E s := by
  obtain ⟨own, rest, rfl, hg, h1, h2⟩ := U.split
  exact stCN F N hc hd h1 h2 (fun h' o' F' N' d' => h h' o' F' (hg o' ▸ N') d') hk hl
end
section
theorem ln43 : True := by
  k_with "mine updF" => first | (refine' UpdF.head ?aQz; (case aQz => k_extra "mine allne")) | (refine' UpdF.tail ?aQz ?bQz; (case aQz => first | k_extra "mine new" | k_ne); (case bQz => k_extra "mine updF")) | k_updF
  k_with "storeName" => (k_here; k_dflt ((first | with_reducible refine' storeE_C ?FQz ?NQz ?cQz ?UQz ?dQz ?_ ?aQz ?bQz | refine' storeE_C ?FQz ?NQz ?cQz ?UQz ?dQz ?_ ?aQz ?bQz); (case aQz => rfl); (case bQz => rfl); (case FQz => k_asm); (case NQz => k_asm); (case cQz => rfl); (case UQz => k_extra "mine updF"); (case dQz => k_asm)); intro h'e177 o'e177 F'e177 N'e177 d'e177; (try dsimp only at N'e177); (try k_sweep))
  k_with "newTuple" => (k_here; k_dflt ((first | with_reducible refine' kup_newTuple ?FQz ?NQz ?_ ?zQz | refine' kup_newTuple ?FQz ?NQz ?_ ?zQz); (case FQz => k_asm); (case NQz => k_asm); (case zQz => kmk_size)); intro D'e160 h'e160 F'e160 N'e160 l1e160; (try k_sweep))
  k_with "mine keep" => first | (refine' Keep2.here; done) | (refine' Keep2.tail ?pkQz; (case pkQz => k_extra "mine keep")) | fail "mine"
  k_with "mine con" => ((case k1Qz => k_asm); (case k2Qz => k_asm); (case k3Qz => k_asm); (case k4Qz => k_asm); (case k5Qz => k_asm); (case a3Qz => exact rfl); (case hfQz => exact rfl); (case hkQz => exact rfl); (case a1Qz => exact rfl); (case a2Qz => k_extra "mine room"); (case a4Qz => k_extra "mine room"))
  k_with "call ref" => (k_here; (with_reducible show wpAny _ _ (call (Value.ref 252) [Value.int 6 _]) _ _ _); k_dflt ((first | with_reducible refine' local_use6 ?k1Qz ?k2Qz ?k3Qz ?k4Qz ?k5Qz ?a3Qz ?hfQz ?hkQz ?a1Qz ?a2Qz ?a4Qz ?_ | refine' local_use6 ?k1Qz ?k2Qz ?k3Qz ?k4Qz ?k5Qz ?a3Qz ?hfQz ?hkQz ?a1Qz ?a2Qz ?a4Qz ?_); k_extra "mine con"); intro a'e179 b'e179 t'e179 u'e179 x'e179 y'e179 h'e179 tk'e179 F'e179 N'e179; (try dsimp only); (try k_sweep); (try k_fold))
  k_with "call ref" => (k_here; (with_reducible show wpAny _ _ (call (Value.ref 252) [Value.int 2 _]) _ _ _); k_dflt ((first | with_reducible refine' local_use2' ?k1Qz ?k2Qz ?k3Qz ?k4Qz ?k5Qz ?a3Qz ?hfQz ?hkQz ?a1Qz ?a2Qz ?a4Qz ?_ | refine' local_use2' ?k1Qz ?k2Qz ?k3Qz ?k4Qz ?k5Qz ?a3Qz ?hfQz ?hkQz ?a1Qz ?a2Qz ?a4Qz ?_); k_extra "mine con"); intro a'e180 v'e180 t'e180 u'e180 x'e180 h'e180 tk'e180 hty'e180 F'e180 N'e180; (try dsimp only); (try k_sweep); (try k_fold))
  k_with "call ref" => (k_here; (with_reducible show wpAny _ _ (call (Value.ref 283) _) _ _ _); (rename Obj.IsDictOf (PySem.strKind _ _) _ [] => hd9e181); (rename (∀ l, TyIn l _ .arr) => ha9e181); k_dflt ((first | with_reducible refine' told_one ha9e181 hd9e181 ?k1Qz ?k2Qz ?k3Qz ?k4Qz ?k5Qz ?a3Qz ?hfQz ?hkQz ?a1Qz ?a2Qz ?a4Qz ?hblQz ?hltQz ?hloQz ?hctQz ?s1Qz ?m1Qz ?m2Qz ?m3Qz ?m4Qz ?m5Qz ?m6Qz ?s2Qz ?n1Qz ?n2Qz ?n4Qz ?n5Qz ?m7Qz ?kpQz ?_ | refine' told_one ha9e181 hd9e181 ?k1Qz ?k2Qz ?k3Qz ?k4Qz ?k5Qz ?a3Qz ?hfQz ?hkQz ?a1Qz ?a2Qz ?a4Qz ?hblQz ?hltQz ?hloQz ?hctQz ?s1Qz ?m1Qz ?m2Qz ?m3Qz ?m4Qz ?m5Qz ?m6Qz ?s2Qz ?n1Qz ?n2Qz ?n4Qz ?n5Qz ?m7Qz ?kpQz ?_); k_extra "mine con"; (case hblQz => k_extra "mine mem"); (case hltQz => k_extra "mine mem"); (case hloQz => assumption); (case hctQz => k_extra "mine mem"); (case s1Qz => k_extra "mine mem"); (case m1Qz => k_extra "mine mem"); (case m2Qz => k_extra "mine mem"); (case m3Qz => k_extra "mine mem"); (case m4Qz => k_extra "mine mem"); (case m5Qz => k_extra "mine mem"); (case m6Qz => k_extra "mine mem"); (case s2Qz => k_extra "mine mem"); (case n1Qz => k_extra "mine mem"); (case n2Qz => k_extra "mine mem"); (case n4Qz => k_extra "mine mem"); (case n5Qz => k_extra "mine mem"); (case m7Qz => k_extra "mine mem"); (case kpQz => k_extra "mine keep")); intro D'e181 t'e181 c'e181 h'e181 tk'e181 n1e181 n2e181 F'e181 N'e181; (try dsimp only at n1e181); (try dsimp only at n2e181); (try dsimp only); (try k_sweep); (try k_fold))
  k_with "call ref" => (k_here; (with_reducible show wpAny _ _ (call (Value.ref 213) _) _ _ _); (rename IntsAre _ _ => hi9e182); k_dflt ((first | with_reducible refine' pool_use hi9e182 ?k1Qz ?k2Qz ?k3Qz ?k4Qz ?k5Qz ?a3Qz ?hfQz ?hkQz ?a1Qz ?a2Qz ?a4Qz ?hlQz ?hzQz ?_ | refine' pool_use hi9e182 ?k1Qz ?k2Qz ?k3Qz ?k4Qz ?k5Qz ?a3Qz ?hfQz ?hkQz ?a1Qz ?a2Qz ?a4Qz ?hlQz ?hzQz ?_); k_extra "mine con"; (case hlQz => assumption); (case hzQz => omega)); intro D'e182 o'e182 h'e182 tk'e182 ho'e182 F'e182 N'e182 l1e182; (try dsimp only); (try k_sweep); (try k_fold))
  exact True.intro
local macro_rules | `(tactic| k_mem) => `(tactic| k_extra "mine mem")
theorem ln44 : True := by
  k_with "mine off" => (rename (∀ x, Off x _) => ho9e183; exact ho9e183 _)
  k_with "exec Assign cons ListComp" => (k_here; (with_reducible show wpAny _ _ (exec (PySem.Stmt.Assign [PySem.Expr.Name _ _] (PySem.Expr.ListComp _ _ _ _) _) _) _ _ _); k_dflt ((first | with_reducible refine' comp_assign ?c0Qz ?c1Qz ?c2Qz ?c3Qz ?_ ?c5Qz | refine' comp_assign ?c0Qz ?c1Qz ?c2Qz ?c3Qz ?_ ?c5Qz); (case c0Qz => exact rfl); (case c1Qz => with_unfolding_all rfl); (case c2Qz => rfl); (case c3Qz => decide); (case c5Qz => intro _; with_unfolding_all rfl)))
  k_with "CSrc" => (k_here; (rename SrcOk _ => ho9e185); (rename IsRange _ _ _ _ _ _ _ _ => rg9e185); k_dflt ((first | with_reducible refine' body_comp (sz := 600) ho9e185 rg9e185 ?b1Qz ?b2Qz ?hhQz ?c1Qz ?c2Qz ?c3Qz ?e1Qz ?e2Qz ?e3Qz ?FQz ?NQz ?msQz ?mdQz ?kpQz ?d1Qz ?d2Qz ?hneQz ?p1Qz ?p2Qz ?q1Qz ?q2Qz ?hlQz ?_ ?_ ?hc8Qz | refine' body_comp (sz := 600) ho9e185 rg9e185 ?b1Qz ?b2Qz ?hhQz ?c1Qz ?c2Qz ?c3Qz ?e1Qz ?e2Qz ?e3Qz ?FQz ?NQz ?msQz ?mdQz ?kpQz ?d1Qz ?d2Qz ?hneQz ?p1Qz ?p2Qz ?q1Qz ?q2Qz ?hlQz ?_ ?_ ?hc8Qz); (case hc8Qz => exact Nat.le_refl 8); (case FQz => k_asm); (case NQz => k_asm); (case b1Qz => omega); (case b2Qz => omega); (case hhQz => rfl); (case c1Qz => decide); (case c2Qz => rfl); (case c3Qz => rfl); (case e1Qz => exact rfl); (case e2Qz => exact rfl); (case e3Qz => exact rfl); (case msQz => k_extra "mine mem"); (case mdQz => k_extra "mine mem"); (case kpQz => k_extra "mine keep"); (case d1Qz => assumption); (case d2Qz => assumption); (case hneQz => k_extra "mine ne"); (case p1Qz => (first | k_extra "mine new" | (dsimp only; first | k_extra "mine new" | omega))); (case p2Qz => (first | k_extra "mine new" | (dsimp only; first | k_extra "mine new" | omega))); (case q1Qz => (first | k_extra "mine new" | (dsimp only; first | k_extra "mine new" | omega))); (case q2Qz => (first | k_extra "mine new" | (dsimp only; first | k_extra "mine new" | omega))); (case hlQz => omega); (intro o2'e185 its2'e185 n2'e185 l2'e185 fr2'e185 C2'e185 oC2'e185 m2'e185 h2'e185 tk2'e185 E2'e185 ho2'e185 hi2'e185 hl2'e185 hoffa'e185 hoffb'e185 hsb2'e185 hmC'e185 hNC'e185 F'e185 N'e185; (try dsimp only); (try k_sweep)); rotate_left; (intro D2'e185 ys2'e185 o2'e185 its2'e185 n2'e185 ext2'e185 fr2'e185 h2'e185 tk2'e185 ho2'e185 hto'e185 hpq'e185 hi2'e185 he2'e185 hfa2'e185 hrf2'e185 hn1'e185 hn2'e185 hn3'e185 hn4'e185 hnD'e185 F'e185 N'e185; (try dsimp only at hn3'e185); (try dsimp only at hn4'e185); (try dsimp only); (try k_sweep)); rotate_right))
  k_with "call ref" => (k_here; (with_reducible show wpAny _ _ (call (Value.ref 278) [Value.ref _, Value.ref _, Value.int _ _]) _ _ _); (with_reducible rename IntsAre _ _ => hi9e186); k_dflt ((first | with_reducible refine' st_use (st_con2 _) ?k1Qz ?k2Qz ?k3Qz ?k4Qz ?k5Qz ?a3Qz ?hfQz ?hkQz ?a1Qz ?a2Qz ?a4Qz ?hsQz ?hs2Qz ?hoQz ?hneQz ?offQz ?off2Qz hi9e186 ?hlQz ?_ | refine' st_use (st_con2 _) ?k1Qz ?k2Qz ?k3Qz ?k4Qz ?k5Qz ?a3Qz ?hfQz ?hkQz ?a1Qz ?a2Qz ?a4Qz ?hsQz ?hs2Qz ?hoQz ?hneQz ?offQz ?off2Qz hi9e186 ?hlQz ?_); k_extra "mine con"; (case hoQz => assumption); (case hsQz => k_extra "mine pick"); (case hneQz => k_extra "mine ne"); (case hs2Qz => k_extra "mine pick"); (case offQz => k_extra "mine off"); (case off2Qz => k_extra "mine off"); (case hlQz => omega)); intro o'e186 its'e186 n'e186 ext'e186 fr'e186 a'e186 h'e186 tk'e186 ho'e186 hg'e186 hoff'e186 hoff2'e186 hi'e186 he'e186 hv'e186 F'e186 N'e186; (try dsimp only); (try k_sweep); (try k_fold))
  k_with "StEnd" => (k_here; k_dflt ((first | with_reducible refine' StEnd.intro ?FQz ?NQz ?gQz ?hoQz ?hiQz ?heQz ?hvQz | refine' StEnd.intro ?FQz ?NQz ?gQz ?hoQz ?hiQz ?heQz ?hvQz); (case FQz => k_asm); (case NQz => k_asm); (case gQz => with_reducible assumption); (case hoQz => assumption); (case hiQz => with_reducible assumption); (case heQz => with_reducible assumption); (case hvQz => with_reducible assumption)))
  k_with "binaryOp Mult ref int" => (k_here; k_dflt ((first | with_reducible refine' mul01 ?FQz ?NQz ?hlQz ?hxQz ?_ | refine' mul01 ?FQz ?NQz ?hlQz ?hxQz ?_); (case FQz => k_asm); (case NQz => k_asm); (case hlQz => k_extra "mine mem"); (case hxQz => (split <;> simp))); intro D'e187 h'e187 ws'e187 hw'e187 F'e187 N'e187 l1e187; (try k_sweep))
  k_with "call type:tuple" => (k_here; (rename (_ = [_] ∨ _ = []) => hw9e188); k_dflt ((first | with_reducible refine' tuple_ws hw9e188 ?FQz ?NQz ?mQz ?_ | refine' tuple_ws hw9e188 ?FQz ?NQz ?mQz ?_); (case FQz => k_asm); (case NQz => k_asm); (case mQz => k_extra "mine mem")); intro T'e188 h'e188 F'e188 N'e188 l1e188; (try k_sweep))
  k_with "exec For Name Call cons nil" => (k_here; (fail_if_success (k_here; (with_reducible rename LoopMark => w9e189))); (rename Obj.IsDictOf (PySem.strKind _ _) _ [] => hd9e189); (with_reducible rename IntsAre _ _ => hi9e189); (rename SrcOk _ => ho9e189); k_dflt ((first | with_reducible refine' lp_cut hi9e189 ho9e189 hd9e189 ?FQz ?NQz ?h1Qz ?h2Qz ?h3Qz ?d1Qz ?d2Qz ?h4Qz ?h5Qz ?_ ?_ | refine' lp_cut hi9e189 ho9e189 hd9e189 ?FQz ?NQz ?h1Qz ?h2Qz ?h3Qz ?d1Qz ?d2Qz ?h4Qz ?h5Qz ?_ ?_); (case FQz => k_asm); (case NQz => k_asm); (case h1Qz => k_extra "mine pick"); (case h2Qz => k_extra "mine pick"); (case h3Qz => k_extra "mine pick"); (case d1Qz => assumption); (case d2Qz => assumption); (case h4Qz => k_extra "mine pick"); (case h5Qz => k_extra "mine pick")); (have w9e189 := LoopMark.mk); rotate_left; (intro h'e189 tk'e189 o'e189 its'e189 n'e189 outs'e189 lo'e189 lks'e189 fr'e189 u'e189 ho'e189 hi'e189 hol'e189 hob'e189 hd'e189 hL'e189 hsb'e189 hne'e189 F'e189 N'e189; (try dsimp only); (try k_sweep)); rotate_right)
  k_with "call ref" => (k_here; (with_reducible show wpAny _ _ (call (Value.ref 220) [Value.ref _, Value.int 3 _]) _ _ _); k_dflt ((first | with_reducible refine' take_use ?k1Qz ?k2Qz ?k3Qz ?k4Qz ?k5Qz ?a3Qz ?hfQz ?hkQz ?a1Qz ?a2Qz ?a4Qz ?hsQz ?hoQz ?htQz ?offQz ?_ | refine' take_use ?k1Qz ?k2Qz ?k3Qz ?k4Qz ?k5Qz ?a3Qz ?hfQz ?hkQz ?a1Qz ?a2Qz ?a4Qz ?hsQz ?hoQz ?htQz ?offQz ?_); k_extra "mine con"; (case hoQz => assumption); (case hsQz => k_extra "mine pick"); (case htQz => exact ⟨by decide, by decide⟩); (case offQz => k_extra "mine off")); intro d'e190 td'e190 o'e190 h'e190 tk'e190 hd0e190 hd1e190 ho'e190 F'e190 N'e190; (rcases three_of hd0e190 hd1e190 with e9e190 | e9e190 | e9e190 <;> subst e9e190 <;> clear hd0e190 hd1e190); all_goals ((try dsimp only); (try k_sweep); (try k_fold)))
  k_with "newTuple" => (k_here; (with_reducible rename LoopMark => w9e191); (first | (with_reducible show wpAny _ _ (newTuple []) _ _ _) | (with_reducible show wpAny _ _ (newTuple [Value.str _ _, _]) _ _ _)); k_dflt ((first | with_reducible refine' tup_drop ?FQz ?NQz ?zQz ?_ | refine' tup_drop ?FQz ?NQz ?zQz ?_); (case FQz => k_asm); (case NQz => k_asm); (case zQz => kmk_size)); intro D'e191 h'e191 F'e191 N'e191; (try k_sweep))
  k_with "pyIter ref" => ((with_reducible show wpAny _ _ (pyIter (Value.ref _)) (fun it s₂ => LoopAtV _ _ _ _ _ _ _ _ _ it s₂) _ _); k_here; (with_reducible rename LoopMark => w9e192); k_rangeUnr)
  k_with "newList" => (k_here; (with_reducible rename LoopMark => w9e193); k_dflt ((first | with_reducible refine' list_drop1 ?FQz ?NQz ?zQz ?_ | refine' list_drop1 ?FQz ?NQz ?zQz ?_); (case FQz => k_asm); (case NQz => k_asm); (case zQz => kmk_size)); intro D'e193 h'e193 F'e193 N'e193; (try k_sweep))
  k_with "eval Dict nil nil" => (k_here; (with_reducible rename LoopMark => w9e194); k_dflt ((first | with_reducible refine' dict0_drop ?FQz ?NQz ?bQz ?_ | refine' dict0_drop ?FQz ?NQz ?bQz ?_); (case FQz => k_asm); (case NQz => k_asm); (case bQz => exact Top.nolimit (by k_asm))); intro d'e194 h'e194 F'e194 N'e194; (try k_sweep))
  k_with "call ref" => (k_here; (with_reducible show wpAny _ _ (call (Value.ref 245) _) _ _ _); (k_dflt (show wpAny _ _ (call (Value.ref 245) []) _ _ _)); k_dflt ((first | with_reducible refine' types_drop ?k1Qz ?k2Qz ?k3Qz ?k4Qz ?k5Qz ?a3Qz ?hfQz ?hkQz ?a1Qz ?a2Qz ?a4Qz ?_ | refine' types_drop ?k1Qz ?k2Qz ?k3Qz ?k4Qz ?k5Qz ?a3Qz ?hfQz ?hkQz ?a1Qz ?a2Qz ?a4Qz ?_); k_extra "mine con"); intro l'e195 vs'e195 n'e195 h'e195 tk'e195 h8'e195 F'e195 N'e195 l1e195; (try dsimp only); (try k_sweep); (try k_fold))
  k_with "subscriptTail" => (k_here; (with_reducible show wpAny _ _ (subscriptTail _ _ (Value.ref _) (Value.int _ _)) _ _ _); (rename _ = 8 => h89e196); k_dflt ((first | with_reducible refine' item8 h89e196 ?NQz ?lQz ?h0Qz ?h1Qz ?_ ?zQz | refine' item8 h89e196 ?NQz ?lQz ?h0Qz ?h1Qz ?_ ?zQz); (case NQz => k_asm); (case lQz => k_extra "mine mem"); (case h0Qz => assumption); (case h1Qz => assumption); (case zQz => with_unfolding_all rfl)); intro v'e196; (try k_fold))
  k_with "subscriptTail Call" => (k_here; (with_reducible show wpAny _ _ (subscriptTail _ _ (Value.ref _) (Value.int _ _)) _ _ _); (rename _ = 8 => h89e197); k_dflt ((first | with_reducible refine' item8 h89e197 ?NQz ?lQz ?h0Qz ?h1Qz ?_ ?zQz | refine' item8 h89e197 ?NQz ?lQz ?h0Qz ?h1Qz ?_ ?zQz); (case NQz => k_asm); (case lQz => k_extra "mine mem"); (case h0Qz => assumption); (case h1Qz => assumption); (case zQz => with_unfolding_all rfl)); intro v'e197; (try k_fold))
  k_with "subscriptTail Name Constant ref int" => (k_here; (with_reducible show wpAny _ _ (subscriptTail _ _ (Value.ref _) (Value.int _ _)) _ _ _); (rename _ = 8 => h89e198); k_dflt ((first | with_reducible refine' item8 h89e198 ?NQz ?lQz ?h0Qz ?h1Qz ?_ ?zQz | refine' item8 h89e198 ?NQz ?lQz ?h0Qz ?h1Qz ?_ ?zQz); (case NQz => k_asm); (case lQz => k_extra "mine mem"); (case h0Qz => assumption); (case h1Qz => assumption); (case zQz => with_unfolding_all rfl)); intro v'e198; (try k_fold))
  k_with "call ref" => (k_here; (with_reducible show wpAny _ _ (call (Value.ref 90) _) _ _ _); k_dflt ((first | with_reducible refine' fn_use2 ?k1Qz ?k2Qz ?k3Qz ?k4Qz ?k5Qz ?a3Qz ?hfQz ?hkQz ?a1Qz ?a2Qz ?a4Qz ?h1Qz ?h2Qz ?h3Qz ?h4Qz ?h5Qz ?h6Qz ?h7Qz ?_ | refine' fn_use2 ?k1Qz ?k2Qz ?k3Qz ?k4Qz ?k5Qz ?a3Qz ?hfQz ?hkQz ?a1Qz ?a2Qz ?a4Qz ?h1Qz ?h2Qz ?h3Qz ?h4Qz ?h5Qz ?h6Qz ?h7Qz ?_); k_extra "mine con"; (case h1Qz => exact rfl); (case h2Qz => exact rfl); (case h3Qz => exact rfl); (case h4Qz => exact rfl); (case h5Qz => exact rfl); (case h6Qz => exact rfl); (case h7Qz => exact rfl)); intro x'e199 d'e199 es'e199 n'e199 h'e199 tk'e199 hu'e199 l1e199 l2e199 F'e199 N'e199; (try (have l3e199 := lt_next l1e199 l2e199)); (try k_lt2 l2e199); (try dsimp only); (try k_sweep); (try k_fold))
  k_with "setItem ref str" => (k_here; (rename Obj.IsDictOf (PySem.strKind _ _) _ _ => hd9e200); k_dflt ((first | with_reducible refine' lit_set hd9e200 ?hlQz ?hfQz ?FQz ?NQz ?hsQz ?offQz ?_ | refine' lit_set hd9e200 ?hlQz ?hfQz ?FQz ?NQz ?hsQz ?offQz ?_); (case FQz => k_asm); (case NQz => k_asm); (case hlQz => exact Nat.le_of_ble_eq_true rfl); (case hfQz => first | kernel_rfl! | decide +kernel); (case hsQz => k_extra "mine pick"); (case offQz => k_extra "mine off")); intro h'e200 od'e200 hd'e200 F'e200 N'e200; (try k_sweep))
  k_with "call builtin:list.append" => (k_here; (with_reducible show wpAny _ _ (call (Value.builtin _) [Value.ref _, Value.int _ _]) _ _ _); (with_reducible rename IntsAre _ _ => hi9e201); k_dflt ((first | with_reducible refine' due_append ?FQz ?NQz ?hsQz hi9e201 ?hlQz ?offQz ?_ | refine' due_append ?FQz ?NQz ?hsQz hi9e201 ?hlQz ?offQz ?_); (case FQz => k_asm); (case NQz => k_asm); (case hsQz => k_extra "mine pick"); (case hlQz => ((try simp only [List.length_append, List.length_cons, List.length_nil]); omega)); (case offQz => k_extra "mine off")); intro h'e201 hi'e201 F'e201 N'e201; (try k_sweep))
  k_with "mine suf" => first | (with_reducible exact suf_rf) | ((with_reducible refine' suf_tl ?sQz); (case sQz => k_extra "mine suf")) | fail "mine"
  k_with "mine allne" => first | with_reducible assumption | (rename (∀ e : Addr × Obj, e ∈ _ → e.1 ≠ _ ∧ e.1 ≠ _) => hpq9e203; exact fun e me => (hpq9e203 e me).1) | (rename (∀ e : Addr × Obj, e ∈ _ → e.1 ≠ _ ∧ e.1 ≠ _) => hpq9e203; exact fun e me => (hpq9e203 e me).2) | ((refine' allne_new ?hQz ?sQz); (case hQz => with_reducible assumption); (case sQz => k_extra "mine suf")) | (exact fun e me => Nat.ne_of_lt (ktn_ltOf (by first | assumption | tbn_find) e me)) | exact List.forall_mem_nil _ | (refine allne_cons ?_ ?_; (first | k_extra "mine new" | ((try dsimp only); omega)); (k_extra "mine allne")) | fail "mine"
  k_with "UnrEnd" => (k_here; k_dflt ((first | with_reducible refine' un_end ?FQz ?NQz ?hsQz ?offQz ?_ | refine' un_end ?FQz ?NQz ?hsQz ?offQz ?_); (case FQz => k_asm); (case NQz => k_asm); (case hsQz => k_extra "mine pick"); (case offQz => k_extra "mine allne")))
  k_with "mine lit" => ((case m1Qz => ((k_extra "mine mem"))); (case m2Qz => ((k_extra "mine mem"))); (case m3Qz => ((with_reducible assumption))); (case m4Qz => ((k_extra "mine mem"))); (case m5Qz => ((k_extra "mine mem"))))
  k_with "mine lits" => first | exact LitsAre.nil | (refine' LitsAre.snoc ?m1Qz ?m2Qz ?m3Qz ?m4Qz ?m5Qz ?rrQz; k_extra "mine lit"; (case rrQz => k_extra "mine lits")) | fail "lits"
  k_with "mine outs" => first | exact outs_nil | (refine' outs_snoc ?h0Qz ?h1Qz ?hrQz; (case h0Qz => assumption); (case h1Qz => assumption); (case hrQz => k_extra "mine outs")) | fail "outs"
  k_with "LpEnd" => (k_here; (rename Obj.IsDictOf (PySem.strKind _ _) _ _ => hd9e208); (with_reducible rename IntsAre _ _ => hi9e208); (rename SrcOk _ => ho9e208); k_dflt ((first | with_reducible refine' lp_end hi9e208 ho9e208 hd9e208 ?FQz ?NQz ?h1Qz ?h2Qz ?h3Qz ?h4Qz ?h5Qz ?hLQz ?heQz ?holQz ?hobQz ?sbQz ?hneQz ?hmQz | refine' lp_end hi9e208 ho9e208 hd9e208 ?FQz ?NQz ?h1Qz ?h2Qz ?h3Qz ?h4Qz ?h5Qz ?hLQz ?heQz ?holQz ?hobQz ?sbQz ?hneQz ?hmQz); (case FQz => k_asm); (case NQz => k_asm); (case h1Qz => k_extra "mine pick"); (case h2Qz => k_extra "mine pick"); (case h3Qz => k_extra "mine pick"); (case h4Qz => k_extra "mine pick"); (case h5Qz => k_extra "mine pick"); (case hLQz => k_extra "mine lits"); (case heQz => first | exact (List.append_nil _).symm | exact rfl | (simp only [List.append_assoc, List.nil_append, List.cons_append]; done)); (case holQz => exact Nat.le_of_ble_eq_true rfl); (case hobQz => k_extra "mine outs"); (case sbQz => k_extra "mine sub"); (case hneQz => k_extra "mine allne"); (case hmQz => (intro ze208 h3e208; (simp only [lpTmp, List.contains_cons, List.contains_nil, Bool.or_false, Bool.or_eq_false_iff, beq_eq_false_iff_ne, ne_eq] at h3e208); (obtain ⟨h7e208, h8e208⟩ := h3e208); first | rfl | (simp only [h7e208, h8e208, Bool.false_eq_true, ↓reduceIte]; done)))))
  k_with "eval ListComp" => (k_here; (with_reducible show wpAny _ _ (eval (PySem.Expr.ListComp _ [⟨PySem.Expr.Name _ _, _, _, _⟩] _ _) _) _ _ _); k_dflt ((first | with_reducible refine' comp_eval ?c1Qz ?c2Qz ?c3Qz ?_ ?c5Qz | refine' comp_eval ?c1Qz ?c2Qz ?c3Qz ?_ ?c5Qz); (case c1Qz => with_unfolding_all rfl); (case c2Qz => rfl); (case c3Qz => decide); (case c5Qz => intro _; with_unfolding_all rfl)))
  k_with "eval ListComp" => (k_here; (with_reducible show wpAny _ _ (eval (PySem.Expr.ListComp _ [⟨PySem.Expr.Tuple _ _ _, _, _, _⟩] _ _) _) _ _ _); k_dflt ((first | with_reducible refine' comp_evalT ?c1Qz ?c2Qz ?c3Qz ?_ ?c5Qz | refine' comp_evalT ?c1Qz ?c2Qz ?c3Qz ?_ ?c5Qz); (case c1Qz => with_unfolding_all rfl); (case c2Qz => rfl); (case c3Qz => decide); (case c5Qz => intro _; with_unfolding_all rfl)))
  k_with "EnSrc" => (k_here; (rename (_ = [_] ∨ _ = []) => hw9e211); k_dflt ((first | with_reducible refine' capt_use hw9e211 ?hTQz ?hhQz ?c1Qz ?c2Qz ?c3Qz ?c4Qz ?c5Qz ?c6Qz ?FQz ?NQz ?mQz ?_ | refine' capt_use hw9e211 ?hTQz ?hhQz ?c1Qz ?c2Qz ?c3Qz ?c4Qz ?c5Qz ?c6Qz ?FQz ?NQz ?mQz ?_); (case FQz => k_asm); (case NQz => k_asm); (case hTQz => k_extra "mine mem"); (case mQz => k_extra "mine mem"); (case hhQz => rfl); (case c1Qz => decide); (case c2Qz => rfl); (case c3Qz => rfl); (case c4Qz => rfl); (case c5Qz => decide); (case c6Qz => decide)); intro D'e211 ys'e211 cs'e211 h'e211 tk'e211 hcap'e211 hI'e211 l1e211 F'e211 N'e211; (try dsimp only); (try k_sweep))
  k_with "binaryOp Add ref ref" => (k_here; (with_reducible show wpAny _ _ (binaryOp _ (Value.ref _) (Value.ref _)) _ _ _); (rename CapOk _ _ _ => hcap9e212); (have hcl9e212 := hcap9e212.lt8.2); k_dflt ((first | with_reducible refine' add_use ?hiQz ?hjQz ?FQz ?NQz ?aQz ?bQz ?zQz ?_ | refine' add_use ?hiQz ?hjQz ?FQz ?NQz ?aQz ?bQz ?zQz ?_); (case FQz => k_asm); (case NQz => k_asm); (case aQz => k_extra "mine mem"); (case bQz => k_extra "mine mem"); (case hiQz => with_reducible assumption); (case hjQz => with_reducible assumption); (case zQz => ((try simp only [List.length_append]); omega))); intro D'e212 us'e212 h'e212 hI'e212 F'e212 N'e212 l1e212; (try k_sweep))
  k_with "mine sub" => (refine' Sub.trans ?pkQz ?pgQz; (case pgQz => with_reducible assumption); (case pkQz => k_extra "mine sub"))
  k_with "call ref" => (k_here; (with_reducible show wpAny _ _ (call (Value.ref 283) _) _ _ _); (rename CapOk _ _ _ => hcap9e214); (rename FndAll _ _ _ _ => hfa9e214); (rename LitsAre _ _ _ => hL9e214); (rename Obj.IsDictOf (PySem.strKind _ _) _ _ => hd9e214); k_dflt (refine' told_use ?k1Qz ?k2Qz ?k3Qz ?k4Qz ?k5Qz ?a3Qz ?hfQz ?hkQz ?a1Qz ?a2Qz ?a4Qz ?hblQz ?hltQz ?hloQz hd9e214 (LitsAre.mono ?sLQz hL9e214) (CapOk.is hcap9e214 ?hTQz ?hcQz) (FndAll.mono (Sub.T ?sFQz) hfa9e214) ?hrQz ?hnQz ?holQz ?hcbQz ?hobQz ?_; k_extra "mine con"; (case hblQz => k_extra "mine mem"); (case hltQz => k_extra "mine mem"); (case hloQz => assumption); (case sLQz => k_extra "mine sub"); (case sFQz => k_extra "mine sub"); (case hTQz => k_extra "mine mem"); (case hcQz => k_extra "mine mem"); (case hrQz => assumption); (case hnQz => omega); (case holQz => omega); (case hcbQz => exact hcap9e214.lt8.1); (case hobQz => assumption)); intro D'e214 its'e214 q'e214 ks'e214 h'e214 tk'e214 hI'e214 hp'e214 hk'e214 hD'e214 F'e214 N'e214; (try dsimp only); (try k_sweep); (try k_fold))
  k_with "CSrc" => (k_here; (rename CapOk _ _ _ => hcap9e215); (have hcl9e215 := hcap9e215.lt8.2); k_dflt ((first | with_reducible refine' pairs_comp ?hIQz ?hhQz ?c1Qz ?c2Qz ?c3Qz ?FQz ?NQz ?mQz ?zQz ?_ ?_ | refine' pairs_comp ?hIQz ?hhQz ?c1Qz ?c2Qz ?c3Qz ?FQz ?NQz ?mQz ?zQz ?_ ?_); (case FQz => k_asm); (case NQz => k_asm); (case mQz => k_extra "mine mem"); (case hIQz => first | with_reducible assumption | assumption); (case hhQz => rfl); (case c1Qz => decide); (case c2Qz => rfl); (case c3Qz => rfl); (case zQz => ((try simp only [List.length_append]); omega)); (intro k2'e215 t2'e215 C2'e215 oC2'e215 m2'e215 fr2'e215 h2'e215 tk2'e215 E2'e215 hmC'e215 hNC'e215 hx2'e215 F'e215 N'e215; (try dsimp only); (try k_sweep)); rotate_left; (intro D2'e215 ys2'e215 fr2'e215 h2'e215 tk2'e215 hs2'e215 hl2'e215 hys2'e215 F'e215 N'e215; (try dsimp only); (try k_sweep)); rotate_right))
  k_with "PrEnd" => (k_here; k_dflt ((first | with_reducible refine' PrEnd.intro ?FQz ?NQz | refine' PrEnd.intro ?FQz ?NQz); (case FQz => k_asm); (case NQz => k_asm)))
  k_with "call type:dict" => (k_here; (rename (∀ (j : Nat) v, _ → ∃ T k t, v = Value.ref T ∧ _) => hys9e217); (rename _ = _ => hl9e217); (rename CapOk _ _ _ => hcap9e217); (have hcl9e217 := hcap9e217.lt8.2); k_dflt ((first | with_reducible refine' dict_of_pairs ?hhQz ?FQz ?NQz ?mQz ?bQz ?nQz ?zQz hys9e217 ?_ | refine' dict_of_pairs ?hhQz ?FQz ?NQz ?mQz ?bQz ?nQz ?zQz hys9e217 ?_); (case FQz => k_asm); (case NQz => k_asm); (case mQz => k_extra "mine mem"); (case hhQz => rfl); (case bQz => exact modules_low (Top.nolimit (by k_asm))); (case nQz => assumption); (case zQz => ((try simp only [List.length_append]); omega))); intro d'e217 o'e217 kvs'e217 h'e217 tk'e217 lo'e217 hd'e217 hk'e217 l1e217 F'e217 N'e217; (try dsimp only); (try k_sweep))
  k_with "call builtin:sorted" => (k_here; (rename Obj.IsDictOf _ _ _ => hd9e218); (rename (∀ y, y ∈ List.map _ _ ↔ y ∈ _) => hk9e218); (rename CapOk _ _ _ => hcap9e218); (rename FndAll _ _ _ _ => hfa9e218); (rename (∀ y ∈ _, (0 : Int) ≤ y ∧ y < 8) => hob9e218); k_dflt ((first | with_reducible refine' sorted_dict hd9e218 ?hhQz ?FQz ?NQz ?mQz ?loQz ?hbQz ?_ | refine' sorted_dict hd9e218 ?hhQz ?FQz ?NQz ?mQz ?loQz ?hbQz ?_); (case hhQz => rfl); (case FQz => k_asm); (case NQz => k_asm); (case mQz => k_extra "mine mem"); (case loQz => with_reducible assumption); (case hbQz => exact fun y hy => dues_lt8 hfa9e218 hob9e218 hcap9e218.lt8.1 y ((hk9e218 y).mp hy))); intro D'e218 its'e218 q'e218 ks'e218 h'e218 tk'e218 hI'e218 hp'e218 hm'e218 hl'e218 F'e218 N'e218; (try dsimp only); (try k_sweep))
  k_with "compareOp Eq ref ref" => (k_here; k_dflt ((first | with_reducible refine' eq_true ?NQz ?aQz ?bQz ?i1Qz ?i2Qz ?eQz ?huQz ?_ | refine' eq_true ?NQz ?aQz ?bQz ?i1Qz ?i2Qz ?eQz ?huQz ?_); (case NQz => k_asm); (case aQz => k_extra "mine mem"); (case bQz => k_extra "mine mem"); (case i1Qz => with_reducible assumption); (case i2Qz => with_reducible assumption); (case eQz => (refine' same_ints' ?p1Qz ?p2Qz ?h1Qz ?h2Qz ?h3Qz; (case p1Qz => assumption); (case p2Qz => assumption); (case h1Qz => assumption); (case h2Qz => assumption); (case h3Qz => assumption))); (case huQz => units_room)); (try dsimp only); (try k_fold))
  exact True.intro
set_option maxRecDepth 100000 in
set_option maxHeartbeats 8000000 in
theorem law_end : PySem.Challenge.rw_on0017_01.Holds := by
  w_on
  refine holds_law law_said fun said => ?_
  refine holds_open (q := Mine.hd.view_39) (loose := [Str.ofString "ChanError"]) (Xt := fun s => xlAt Mine.hd.view_39 [] s && recOk (RowW.records PySem.Challenge.rw_on0017_01.row.toRowW) s) (XP := XL Mine.hd.view_39 []) (Yf := Hook.obs (kHook Mine.hd.heap_39 Mine.hkAs Mine.hk_ok)) (Ya := Hook.val (kHook Mine.hd.heap_39 Mine.hkAs Mine.hk_ok)) (YP := Hook.says (kHook Mine.hd.heap_39 Mine.hkAs Mine.hk_ok)) (N := 4512) Mine.head_left (Hook.of _) (Hook.keeps _) (fun s e => xl_of s (Bool.and_eq_true_iff.mp e).1) XL.keeps (by rfl) (by rfl) (by rfl) (fun s e => recFacts_of (Bool.and_eq_true_iff.mp e).2) (by first | rfl | fail "hwr") (by first | assumption | decide +kernel) (by decide +kernel) ⟨rfl, rfl, rfl, rfl, rfl, by decide +kernel⟩ ?hw ?hc
  case hw => w_witness2
  case hc =>
    k_fill
    intro w s₀ s₁ mg mb G Y fa o pm cd doc dV kV ho hdd hcd hD hmg hg args vals as hpre hlay hrd hwl hlo
    have KX := kIn_of Y
    have X := (Ground.X G).1
    have V := (Ground.X G).2
    have GL := glob_more (Ground.glob G (by decide +kernel) (by decide +kernel)) V
    refine Ground.open G ?_
    intro T B D TE TW
    try (refine guard_noD D (by decide +kernel) ?_; clear D)
    obtain ⟨_, _, M⟩ := bmod_of_top T
    have TA := at_of_top T
    try (obtain ⟨_, _, he, B0⟩ := based_of_top T rfl hmg ho hdd; have he' : cd = _ := he; subst he'; clear he)
    clear hmg
    wrow_args hpre hlay hrd hwl hlo
    all_goals (
      first | refine callC_kw (enter_call ?_) | refine enter_call ?_ | refine callC_kw (enter_callW ?_) | refine enter_callW ?_ | w_how
      w_top off
      try refine codeAny_mono ?_ (fun _ _ g => GoodW.toG g)
      have K0 := below_caller s₁.heap
      w_call any ho hdd hcd hD T F
      clear hdd TA
      k_drop
      (rename Fr _ _ _ _ => F0)
      refine fr_let F0 ?_
      intro m0 hm0 F1
      have hsc : m0 (Str.ofString "script") = some _ := (congrFun hm0 _).trans rfl
      clear hm0 F0)
    (all_goals try k_fold)
    k_steps
end

end
end Mine
theorem PySem.Challenge.cw_on0017_01_holds : PySem.Challenge.rw_on0017_01.Holds := by
  exact Mine.law_end
